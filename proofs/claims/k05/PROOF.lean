import PyProof.Rows.All
import Wide.All
import OpenK.AllK
import Wide.FinOn
import HandS.ForMost
import HandS.IsInst
import HandS.Strs
import HandS.TupAny
import HandS.TupLe
import HandS.Deep
import HandS.SortInts
import HandS.SetFor
import HandS.Conv
import HandS.Iter
import PySem.Challenge.RW_allsome_k05_whole_left_and_left
set_option Elab.async false
set_option linter.all false
set_option maxRecDepth 100000
set_option maxHeartbeats 4000000
section
/-! A small language of meanings: what a def of the text does to plain data, with no heap. -/
namespace Al
open PySem

/-- plain data -/
inductive D where
  | non | bl (b : Bool) | int (i : Int) | str (x : Str) | tup (l : List D) | lst (l : List D) | dct (ks vs : List D) | obj (c : Nat) (fs : List D) | frz (l : List D)
  deriving Inhabited

/-- what a slot of a frame holds: nothing, frozen data, an owned object (p: the caller's, handed in), one that is being walked -/
inductive S where
  | un | fz (d : D) | ow (p : Bool) (d : D) | mk
  deriving Inhabited
/-- what an expression gives: data, the owned object of a slot, a new object that nobody holds -/
inductive R where
  | val (d : D) | sl (i : Nat) | fr (d : D)
  deriving Inhabited
inductive Fl where
  | nx | rt (r : R) | bk | ct
abbrev Rho := List S
abbrev M := Rho → Option (R × Rho)
abbrev MT := Rho → Option (Bool × Rho)
abbrev MS := Rho → Option (Fl × Rho)
/-- a def: its arguments, its result, the handed-in objects behind -/
abbrev F := List S → Option (R × List S)

def lim : Nat := 16777216
def peek (ρ : Rho) : R → Option D
  | .val d => some d
  | .fr d => some d
  | .sl i => match ρ[i]? with
    | some (.fz d) => some d
    | some (.ow _ d) => some d
    | _ => none
def freezes : D → Bool
  | .lst _ => true
  | .dct _ _ => true
  | _ => false
def forget : R → Option R
  | .fr d => if freezes d = true then some (.val d) else none
  | r => some r
def force : R → Rho → Option (D × Rho)
  | .val d, ρ => some (d, ρ)
  | .fr d, ρ => if freezes d = true then some (d, ρ) else none
  | .sl i, ρ => match ρ[i]? with
    | some (.fz d) => some (d, ρ)
    | some (.ow false d) => if freezes d = true then some (d, ρ.set i (.fz d)) else none
    | _ => none
def peeks (ρ : Rho) : List R → Option (List D)
  | [] => some []
  | r :: rs => (peek ρ r).bind fun d => (peeks ρ rs).bind fun ds => some (d :: ds)
def forces : List R → Rho → Option (List D × Rho)
  | [], ρ => some ([], ρ)
  | r :: rs, ρ => (force r ρ).bind fun (d, ρ1) => (forces rs ρ1).bind fun (ds, ρ2) => some (d :: ds, ρ2)
def evs : List M → Rho → Option (List R × Rho)
  | [], ρ => some ([], ρ)
  | m :: ms, ρ => (m ρ).bind fun (r, ρ1) => (forget r).bind fun r' => (evs ms ρ1).bind fun (rs, ρ2) => some (r' :: rs, ρ2)

/-! ### expressions -/
def cS (d : D) : M := fun ρ => some (.val d, ρ)
def nameS (i : Nat) : M := fun ρ => match ρ[i]? with
  | some (.fz d) => some (.val d, ρ)
  | some (.ow _ _) => some (.sl i, ρ)
  | _ => none
/-- an operation that looks at its operands -/
def opS (f : List D → Option R) (ms : List M) : M := fun ρ =>
  (evs ms ρ).bind fun (rs, ρ1) => (peeks ρ1 rs).bind fun ds => (f ds).bind fun r => some (r, ρ1)
/-- an operation that keeps its operands -/
def keepS (f : List D → Option R) (ms : List M) : M := fun ρ =>
  (evs ms ρ).bind fun (rs, ρ1) => (forces rs ρ1).bind fun (ds, ρ2) => (f ds).bind fun r => some (r, ρ2)
def mkTup : List D → Option R := fun ds => if ds.length ≤ lim then some (.val (.tup ds)) else none
def mkLst : List D → Option R := fun ds => if ds.length ≤ lim then some (.fr (.lst ds)) else none
def tupS (ms : List M) : M := keepS mkTup ms
def lstS (ms : List M) : M := keepS mkLst ms
/-- a def that changes nothing of the caller's -/
def callP (f : F) (ms : List M) : M := fun ρ =>
  (evs ms ρ).bind fun (rs, ρ1) => (forces rs ρ1).bind fun (ds, ρ2) => (f (ds.map .fz)).bind fun (r, _) => some (r, ρ2)
/-- io: which arguments are objects that the def may change -/
def frzA : List Bool → List R → Rho → Option Rho
  | [], [], ρ => some ρ
  | true :: io, _ :: rs, ρ => frzA io rs ρ
  | false :: io, r :: rs, ρ => (force r ρ).bind fun (_, ρ1) => frzA io rs ρ1
  | _, _, _ => none
def argA (ρ : Rho) : List Bool → List R → Option (List S)
  | [], [] => some []
  | true :: io, .sl i :: rs => match ρ[i]? with
    | some (.ow _ d) => (argA ρ io rs).bind fun as => some (.ow true d :: as)
    | _ => none
  | false :: io, .val d :: rs => (argA ρ io rs).bind fun as => some (.fz d :: as)
  | false :: io, .sl i :: rs => match ρ[i]? with
    | some (.fz d) => (argA ρ io rs).bind fun as => some (.fz d :: as)
    | _ => none
  | _, _ => none
def ioIx : List Bool → List R → List Nat
  | true :: io, .sl i :: rs => i :: ioIx io rs
  | _ :: io, _ :: rs => ioIx io rs
  | _, _ => []
def backA : List Bool → List R → List S → Rho → Option Rho
  | [], [], [], ρ => some ρ
  | true :: io, .sl i :: rs, .ow true d :: os, ρ => match ρ[i]? with
    | some (.ow p _) => backA io rs os (ρ.set i (.ow p d))
    | _ => none
  | false :: io, _ :: rs, _ :: os, ρ => backA io rs os ρ
  | _, _, _, _ => none
def callS (f : F) (io : List Bool) (ms : List M) : M := fun ρ =>
  (evs ms ρ).bind fun (rs, ρ1) => (frzA io rs ρ1).bind fun ρ2 => (argA ρ2 io rs).bind fun as =>
    if (ioIx io rs).Nodup then (f as).bind fun (r, os) => (backA io rs os ρ2).bind fun ρ3 => some (r, ρ3) else none
/-- the first argument is a new object, that the def may change -/
def callF (f : F) (m : M) (ms : List M) : M := fun ρ => (m ρ).bind fun (r, ρ1) => match r with
  | .fr d => (evs ms ρ1).bind fun (rs, ρ2) => (forces rs ρ2).bind fun (ds, ρ3) => (f (.ow true d :: ds.map .fz)).bind fun (r, _) => some (r, ρ3)
  | _ => none
def andS (a b : M) : M := fun ρ => (a ρ).bind fun (r, ρ1) => match r with
  | .val (.bl true) => b ρ1
  | .val (.bl false) => some (.val (.bl false), ρ1)
  | _ => none
def orS (a b : M) : M := fun ρ => (a ρ).bind fun (r, ρ1) => match r with
  | .val (.bl false) => b ρ1
  | .val (.bl true) => some (.val (.bl true), ρ1)
  | _ => none
def notS (a : M) : M := fun ρ => (a ρ).bind fun (r, ρ1) => match r with
  | .val (.bl b) => some (.val (.bl (!b)), ρ1)
  | _ => none
def ifxS (t : MT) (a b : M) : M := fun ρ => (t ρ).bind fun (c, ρ1) => if c then a ρ1 else b ρ1
/-- a < b < c -/
def chainS (f g : List D → Option R) (a b c : M) : M := fun ρ =>
  (evs [a, b] ρ).bind fun (rs, ρ1) => (peeks ρ1 rs).bind fun ds => (f ds).bind fun r => match r with
    | .val (.bl true) => (evs [c] ρ1).bind fun (rs', ρ2) => (peeks ρ2 (rs.drop 1 ++ rs')).bind fun ds => (g ds).bind fun r => some (r, ρ2)
    | .val (.bl false) => some (.val (.bl false), ρ1)
    | _ => none

/-! ### tests -/
def valT (m : M) : MT := fun ρ => (m ρ).bind fun (r, ρ1) => match r with
  | .val (.bl b) => some (b, ρ1)
  | _ => none
def andT (a b : MT) : MT := fun ρ => (a ρ).bind fun (c, ρ1) => if c then b ρ1 else some (false, ρ1)
def orT (a b : MT) : MT := fun ρ => (a ρ).bind fun (c, ρ1) => if c then some (true, ρ1) else b ρ1
def notT (a : MT) : MT := fun ρ => (a ρ).bind fun (c, ρ1) => some (!c, ρ1)
def yesT : MT := fun ρ => some (true, ρ)

/-! ### what is walked -/
abbrev Src := Rho → Option (List D × Option Nat × Rho)
def seqOf : D → Option (List D)
  | .lst l => some l
  | .tup l => some l
  | _ => none
def srcV (m : M) : Src := fun ρ => (m ρ).bind fun (r, ρ1) => match r with
  | .sl i => match ρ1[i]? with
    | some (.ow _ (.lst l)) => some (l, some i, ρ1)
    | _ => none
  | .val d => (seqOf d).bind fun l => some (l, none, ρ1)
  | .fr d => (seqOf d).bind fun l => some (l, none, ρ1)
/-- of what is made of the operands, read alone -/
def srcK (f : List D → Option (List D)) (ms : List M) : Src := fun ρ =>
  (evs ms ρ).bind fun (rs, ρ1) => (forces rs ρ1).bind fun (ds, ρ2) => (f ds).bind fun l => some (l, none, ρ2)
def rngD (lo : Int) (n : Nat) : List D := (List.range n).map fun i => .int (lo + (i : Nat))
def big : Int := 4611686018427387904
def inB (i : Int) : Bool := decide (-big ≤ i) && decide (i < big)
def rngF : List D → Option (List D)
  | [.int j] => if inB j then some (rngD 0 j.toNat) else none
  | [.int i, .int j] => if inB i && inB j then some (rngD i (j - i).toNat) else none
  | _ => none
/-- range with a step -/
def cntC (i j c : Int) : Nat := (if c > 0 then (if i < j then (j - i - 1) / c + 1 else 0) else (if i > j then (i - j - 1) / (-c) + 1 else 0)).toNat
def rngCD (lo c : Int) (n : Nat) : List D := (List.range n).map fun (i : Nat) => .int (lo + (i : Nat) * c)
def rngF3 : List D → Option (List D)
  | [.int i, .int j, .int c] => if inB i && inB j && decide (c ≠ 0 ∧ c.natAbs < 1073741824) then some (rngCD i c (cntC i j c)) else none
  | _ => none
def maskS (o : Option Nat) (ρ : Rho) : Rho := match o with
  | some i => ρ.set i .mk
  | none => ρ
def backS (o : Option Nat) (ρ0 ρ : Rho) : Option Rho := match o with
  | some i => match ρ0[i]?, ρ[i]? with
    | some s, some .mk => some (ρ.set i s)
    | _, _ => none
  | none => some ρ
def wipeS : List Nat → Rho → Rho
  | [], ρ => ρ
  | v :: vs, ρ => (wipeS vs ρ).set v .un
def unwipeS : List Nat → Rho → Rho → Rho
  | [], _, ρ => ρ
  | v :: vs, ρ0, ρ => match ρ0[v]? with
    | some s => (unwipeS vs ρ0 ρ).set v s
    | none => unwipeS vs ρ0 ρ
def putS (i : Nat) (s : S) (ρ : Rho) : Option Rho := match ρ[i]? with
  | some (.ow true _) => none
  | some .mk => none
  | none => none
  | some _ => some (ρ.set i s)
abbrev Tgt := D → Rho → Option Rho
def tgt1 (i : Nat) : Tgt := fun d ρ => putS i (.fz d) ρ
def putAll : List Nat → List D → Rho → Option Rho
  | [], [], ρ => some ρ
  | i :: is, d :: ds, ρ => (putS i (.fz d) ρ).bind fun ρ1 => putAll is ds ρ1
  | _, _, _ => none
def tgtN (is : List Nat) : Tgt := fun d ρ => match d with
  | .tup ds => putAll is ds ρ
  | _ => none

/-! ### comprehensions -/
def compL (own : List Nat) (tgt : Tgt) (cond : MT) (elt : M) : List D → Rho → Option (List D × Rho)
  | [], ρ => some ([], ρ)
  | x :: xs, ρ => (tgt x ρ).bind fun ρ1 => (cond ρ1).bind fun (c, ρ2) =>
    if c then (elt ρ2).bind fun (r, ρ3) => (force r ρ3).bind fun (d, ρ4) => (compL own tgt cond elt xs (wipeS own ρ4)).bind fun (ds, ρ5) => some (d :: ds, ρ5)
    else compL own tgt cond elt xs (wipeS own ρ2)
def freeOf (o : Option Nat) (own : List Nat) : Bool := match o with
  | some i => !own.contains i
  | none => true
def compS (own : List Nat) (src : Src) (tgt : Tgt) (cond : MT) (elt : M) : M := fun ρ =>
  (src ρ).bind fun (xs, o, ρ1) => if xs.length ≤ 1000000 ∧ freeOf o own = true then
    (compL own tgt cond elt xs (wipeS own (maskS o ρ1))).bind fun (ds, ρ2) => (backS o ρ1 (unwipeS own ρ1 ρ2)).bind fun ρ3 => some (.fr (.lst ds), ρ3) else none

/-! ### statements -/
def seqS (a b : MS) : MS := fun ρ => (a ρ).bind fun (fl, ρ1) => match fl with
  | .nx => b ρ1
  | fl => some (fl, ρ1)
def nilS : MS := fun ρ => some (.nx, ρ)
def blkS : List MS → MS
  | [] => nilS
  | [a] => a
  | a :: b :: r => seqS a (blkS (b :: r))
def asgS (i : Nat) (m : M) : MS := fun ρ => (m ρ).bind fun (r, ρ1) => match r with
  | .fr d => (putS i (.ow false d) ρ1).bind fun ρ2 => some (.nx, ρ2)
  | r => (force r ρ1).bind fun (d, ρ2) => (putS i (.fz d) ρ2).bind fun ρ3 => some (.nx, ρ3)
def asgT (is : List Nat) (m : M) : MS := fun ρ => (m ρ).bind fun (r, ρ1) => (force r ρ1).bind fun (d, ρ2) => match d with
  | .tup ds => (putAll is ds ρ2).bind fun ρ3 => some (.nx, ρ3)
  | _ => none
def exprS (m : M) : MS := fun ρ => (m ρ).bind fun (_, ρ1) => some (.nx, ρ1)
def retS (m : M) : MS := fun ρ => (m ρ).bind fun (r, ρ1) => some (.rt r, ρ1)
def ifS (t : MT) (a b : MS) : MS := fun ρ => (t ρ).bind fun (c, ρ1) => if c then a ρ1 else b ρ1
def bkS : MS := fun ρ => some (.bk, ρ)
def ctS : MS := fun ρ => some (.ct, ρ)
def loopS (tgt : Tgt) (body : MS) : List D → Rho → Option (Fl × Rho)
  | [], ρ => some (.nx, ρ)
  | x :: xs, ρ => (tgt x ρ).bind fun ρ1 => (body ρ1).bind fun (fl, ρ2) => match fl with
    | .nx => loopS tgt body xs ρ2
    | .ct => loopS tgt body xs ρ2
    | .bk => some (.nx, ρ2)
    | .rt r => some (.rt r, ρ2)
def forS (src : Src) (tgt : Tgt) (body : MS) : MS := fun ρ =>
  (src ρ).bind fun (xs, o, ρ1) => (loopS tgt body xs (maskS o ρ1)).bind fun (fl, ρ2) => (backS o ρ1 ρ2).bind fun ρ3 => some (fl, ρ3)
def whileN (t : MT) (body : MS) : Nat → Rho → Option (Fl × Rho)
  | 0, _ => none
  | n + 1, ρ => (t ρ).bind fun (c, ρ1) => if c then (body ρ1).bind fun (fl, ρ2) => match fl with
      | .nx => whileN t body n ρ2
      | .ct => whileN t body n ρ2
      | .bk => some (.nx, ρ2)
      | .rt r => some (.rt r, ρ2)
    else some (.nx, ρ1)
def whileS (n : Nat) (t : MT) (body : MS) : MS := whileN t body n

/-! ### objects of a slot, changed -/
def isLst : D → Bool
  | .lst _ => true
  | _ => false
def owLst (o : Option S) : Bool := match o with
  | some (.ow _ d) => isLst d
  | _ => false
/-- a list's method that changes it -/
def mutS (i : Nat) (f : List D → List D → Option (D × List D)) (ms : List M) : M := fun ρ => if owLst ρ[i]? = true then
  (evs ms ρ).bind fun (rs, ρ1) => (forces rs ρ1).bind fun (ds, ρ2) => match ρ2[i]? with
    | some (.ow p (.lst l)) => (f l ds).bind fun (d, l') => some (.val d, ρ2.set i (.ow p (.lst l')))
    | _ => none
  else none
/-- the place that an index tells, from the front or from behind -/
def ixOf (n : Nat) (i : Int) : Option Nat :=
  if 0 ≤ i then (if i < (n : Nat) then some i.toNat else none)
  else if -(n : Int) ≤ i then some (i + (n : Nat)).toNat
  else none
def fAppend : List D → List D → Option (D × List D)
  | l, [d] => if l.length < lim then some (.non, l ++ [d]) else none
  | _, _ => none
def fPop : List D → List D → Option (D × List D)
  | l, [.int i] => if l.length ≤ lim then (ixOf l.length i).bind fun k => (l[k]?).bind fun x => some (x, l.eraseIdx k) else none
  | _, _ => none
def fPop0 : List D → List D → Option (D × List D)
  | l, [] => (l[l.length - 1]?).bind fun x => some (x, l.dropLast)
  | _, _ => none
def fInsert : List D → List D → Option (D × List D)
  | l, [.int i, d] => if 0 ≤ i ∧ i ≤ (l.length : Nat) ∧ l.length < lim then some (.non, l.take i.toNat ++ d :: l.drop i.toNat) else none
  | _, _ => none
/-- xs.extend(e), e a new list -/
def extS (i : Nat) (m : M) : M := fun ρ => if owLst ρ[i]? = true then
  (m ρ).bind fun (r, ρ1) => match r, ρ1[i]? with
    | .fr (.lst k), some (.ow p (.lst l)) => if l.length + k.length ≤ lim then some (.val .non, ρ1.set i (.ow p (.lst (l ++ k)))) else none
    | _, _ => none
  else none
/-- o[e] = v: v first, then the index -/
def setS (i : Nat) (ix v : M) : MS := fun ρ => if owLst ρ[i]? = true then
  (evs [v, ix] ρ).bind fun (rs, ρ1) => (forces rs ρ1).bind fun (ds, ρ2) => match ρ2[i]?, ds with
    | some (.ow p (.lst l)), [d, .int k] => (ixOf l.length k).bind fun k => some (.nx, ρ2.set i (.ow p (.lst (l.set k d))))
    | _, _ => none
  else none

/-! ### a def -/
def outs : List S → Rho → Option (List S)
  | [], _ => some []
  | .ow true _ :: as, .ow true d :: ρ => (outs as ρ).bind fun os => some (.ow true d :: os)
  | .fz _ :: as, _ :: ρ => (outs as ρ).bind fun os => some (.un :: os)
  | _, _ => none
def retR : R → Rho → Option R
  | .sl i, ρ => match ρ[i]? with
    | some (.ow false d) => some (.fr d)
    | _ => none
  | r, _ => some r
def argOk : S → Bool
  | .fz _ => true
  | .ow true _ => true
  | _ => false
/-- a def of ar parameters and n names -/
def run (ar n : Nat) (body : MS) : F := fun as => if as.length = ar ∧ as.all argOk = true then
  (body (as ++ List.replicate (n - ar) .un)).bind fun (fl, ρ) => match fl with
    | .nx => (outs as ρ).bind fun os => some (.val .non, os)
    | .rt r => (retR r ρ).bind fun r' => (outs as ρ).bind fun os => some (r', os)
    | _ => none
  else none

/-! ### operations upon data -/
def vi (i : Int) : Option R := some (.val (.int i))
def vb (b : Bool) : Option R := some (.val (.bl b))
def fAdd : List D → Option R
  | [.int i, .int j] => vi (i + j)
  | [.tup a, .tup b] => if a.length + b.length ≤ lim then some (.val (.tup (a ++ b))) else none
  | [.lst a, .lst b] => if a.length + b.length ≤ lim then some (.fr (.lst (a ++ b))) else none
  | [.str a, .str b] => if a.length + b.length ≤ lim then some (.val (.str (a ++ b))) else none
  | _ => none
def fSub : List D → Option R
  | [.int i, .int j] => vi (i - j)
  | _ => none
def b64 (i : Int) : Bool := decide (-(2 ^ 64) < i) && decide (i < 2 ^ 64)
def fMul : List D → Option R
  | [.int i, .int j] => if b64 i || b64 j then vi (i * j) else none
  | [.lst a, .int k] => if decide (-(2 ^ 63) ≤ k) && decide (k < 2 ^ 63) && decide (a.length * k.toNat ≤ lim) then some (.fr (.lst (List.replicate k.toNat a).flatten)) else none
  | _ => none
def fDiv : List D → Option R
  | [.int i, .int j] => if 0 < j ∧ j < 1073741824 then vi (i / j) else none
  | _ => none
def fMod : List D → Option R
  | [.int i, .int j] => if 0 < j then vi (i % j) else none
  | _ => none
def fPow : List D → Option R
  | [.int i, .int j] => if 0 ≤ j ∧ j ≤ 1000000 ∧ i.natAbs < 2 ^ 64 then vi (i ^ j.toNat) else none
  | _ => none
def fNeg : List D → Option R
  | [.int i] => vi (-i)
  | _ => none
def fLt : List D → Option R
  | [.int i, .int j] => vb (decide (i < j))
  | _ => none
def fLe : List D → Option R
  | [.int i, .int j] => vb (decide (i ≤ j))
  | _ => none
def fGt : List D → Option R
  | [.int i, .int j] => vb (decide (j < i))
  | _ => none
def fGe : List D → Option R
  | [.int i, .int j] => vb (decide (j ≤ i))
  | _ => none
mutual
def D.eqv : D → D → Bool
  | .non, .non => true
  | .bl a, .bl b => a == b
  | .bl a, .int j => (if a then 1 else 0) == j
  | .int i, .bl b => i == (if b then 1 else 0)
  | .int i, .int j => i == j
  | .str x, .str y => x == y
  | .lst xs, .lst ys => D.eqvs xs ys
  | .tup xs, .tup ys => D.eqvs xs ys
  | _, _ => false
def D.eqvs : List D → List D → Bool
  | [], [] => true
  | x :: xs, y :: ys => D.eqv x y && D.eqvs xs ys
  | _, _ => false
end
def okStr (x : Str) : Bool := x.cps.all (· < 0x110000)
def D.flat0 : D → Bool
  | .non => true
  | .bl _ => true
  | .int _ => true
  | .str x => okStr x
  | _ => false
/-- no dict, no object within, at most so deep -/
def D.flatN : Nat → D → Bool
  | 0, d => d.flat0
  | n + 1, .tup l => l.all (D.flatN n)
  | n + 1, .lst l => l.all (D.flatN n)
  | _ + 1, d => d.flat0
def plain (d : D) : Bool := D.flatN 60 d
def fEq : List D → Option R
  | [d, e] => if plain d && plain e then vb (D.eqv d e) else none
  | _ => none
def fNe : List D → Option R
  | [d, e] => if plain d && plain e then vb (!D.eqv d e) else none
  | _ => none
def D.isNon : D → Bool
  | .non => true
  | _ => false
def fIsN : List D → Option R
  | [d, .non] => vb d.isNon
  | _ => none
def fNotN : List D → Option R
  | [d, .non] => vb (!d.isNon)
  | _ => none
def fIsB : List D → Option R
  | [.bl a, .bl b] => vb (a == b)
  | _ => none
def fNotB : List D → Option R
  | [.bl a, .bl b] => vb (!(a == b))
  | _ => none
/-- c in a sequence of plain things -/
def fIn : List D → Option R
  | [d, .tup l] => if plain d && l.all plain then vb (l.any fun e => D.eqv e d) else none
  | [d, .lst l] => if plain d && l.all plain then vb (l.any fun e => D.eqv e d) else none
  | _ => none
def fNotIn : List D → Option R
  | [d, .tup l] => if plain d && l.all plain then vb (!l.any fun e => D.eqv e d) else none
  | [d, .lst l] => if plain d && l.all plain then vb (!l.any fun e => D.eqv e d) else none
  | _ => none
def fLen : List D → Option R
  | [.tup l] => vi (l.length : Nat)
  | [.lst l] => vi (l.length : Nat)
  | [.frz l] => vi (l.length : Nat)
  | [.str x] => if x.length ≤ lim then vi (x.length : Nat) else none
  | _ => none
def fAbs : List D → Option R
  | [.int i] => vi (if i < 0 then -i else i)
  | _ => none
def fMax2 : List D → Option R
  | [.int i, .int j] => vi (if j > i then j else i)
  | _ => none
def fMin2 : List D → Option R
  | [.int i, .int j] => vi (if j < i then j else i)
  | _ => none
def fInt : List D → Option R
  | [.int i] => vi i
  | [.bl b] => vi (if b then 1 else 0)
  | _ => none
def blsOf : List D → Option (List Bool)
  | [] => some []
  | .bl b :: r => (blsOf r).bind fun bs => some (b :: bs)
  | _ => none
def fAll : List D → Option R
  | [.lst l] => (blsOf l).bind fun bs => vb (bs.all id)
  | _ => none
def fAny : List D → Option R
  | [.lst l] => (blsOf l).bind fun bs => vb (bs.any id)
  | _ => none
def fTuple : List D → Option R
  | [.lst l] => some (.val (.tup l))
  | [.tup l] => some (.val (.tup l))
  | _ => none
def fList : List D → Option R
  | [.lst l] => some (.fr (.lst l))
  | [.tup l] => some (.fr (.lst l))
  | _ => none
/-- list(range(..)) -/
def fListRng : List D → Option R := fun ds => (rngF ds).bind fun l => if l.length ≤ lim then some (.fr (.lst l)) else none
def fIx : List D → Option R
  | [.frz l, .int i] => (ixOf l.length i).bind fun k => (l[k]?).bind fun x => some (.val x)
  | [.tup l, .int i] => (ixOf l.length i).bind fun k => (l[k]?).bind fun x => some (.val x)
  | [.lst l, .int i] => (ixOf l.length i).bind fun k => (l[k]?).bind fun x => some (.val x)
  | _ => none
inductive Ty where
  | int | bool | str | tuple | list
  deriving DecidableEq
def Ty.has : Ty → D → Option Bool
  | .int, .int _ => some true
  | .int, .bl _ => some true
  | .bool, .bl _ => some true
  | .str, .str _ => some true
  | .tuple, .tup _ => some true
  | .list, .lst _ => some true
  | .list, .frz _ => some true
  | _, .frz _ => none
  | _, .dct _ _ => none
  | _, .obj _ _ => none
  | _, _ => some false
def fIsi (t : Ty) : List D → Option R
  | [d] => (t.has d).bind vb
  | _ => none
def intsOf : List D → Option (List Int)
  | [] => some []
  | .int i :: r => (intsOf r).bind fun is => some (i :: is)
  | _ => none
def insI (i : Int) : List Int → List Int
  | [] => [i]
  | j :: r => if i ≤ j then i :: j :: r else j :: insI i r
def sortI : List Int → List Int
  | [] => []
  | i :: r => insI i (sortI r)
def dedI : List Int → List Int
  | [] => []
  | i :: r => if i ∈ r then dedI r else i :: dedI r
/-- sorted(xs) of ints -/
def fSortI : List D → Option R
  | [.lst l] => (intsOf l).bind fun is => some (.fr (.lst ((sortI is).map .int)))
  | _ => none
/-- sorted(set(xs)) of ints -/
def fSortSet : List D → Option R
  | [.lst l] => (intsOf l).bind fun is => if is.length < 64 then some (.fr (.lst ((sortI (dedI is)).map .int))) else none
  | _ => none
/-- t.count(x), t a tuple -/
def fCount (l : List D) : List D → Option R
  | [d] => if plain d && l.all plain then vi ((l.countP fun e => D.eqv e d) : Nat) else none
  | _ => none
def cntS (mo me : M) : M := fun ρ => (mo ρ).bind fun (r, ρ1) => match r with
  | .val (.tup l) => opS (fCount l) [me] ρ1
  | _ => none
/-- a slice's bounds, cut to the length -/
def clampI (n : Nat) (i : Int) : Nat := if i < 0 then (i + (n : Nat)).toNat else min i.toNat n
def loOf (n : Nat) : Option Int → Nat
  | none => 0
  | some i => clampI n i
def hiOf (n : Nat) : Option Int → Nat
  | none => n
  | some i => clampI n i
def cutL (l : List D) (a b : Option Int) : List D := (l.take (hiOf l.length b)).drop (loOf l.length a)
def sliceF (d : D) (a b : Option Int) : Option R := match d with
  | .tup l => some (.val (.tup (cutL l a b)))
  | .lst l => some (.fr (.lst (cutL l a b)))
  | .frz l => some (.fr (.lst (cutL l a b)))
  | _ => none
def fSlLo : List D → Option R
  | [d, .int i] => sliceF d (some i) none
  | _ => none
def fSlHi : List D → Option R
  | [d, .int j] => sliceF d none (some j)
  | _ => none
def fSl2 : List D → Option R
  | [d, .int i, .int j] => sliceF d (some i) (some j)
  | _ => none
/-- the law's meaning answers True -/
def lawF (f : F) (ns : List Int) : Prop := ∃ os, f [.fz (.frz (ns.map .int))] = some (.val (.bl true), os)
end Al
end
section
namespace Al
/-! sorting of ints -/
theorem insI_perm (i : Int) : ∀ l : List Int, (insI i l).Perm (i :: l)
  | [] => .refl _
  | j :: r => by
    unfold insI
    split
    · exact .refl _
    · exact ((insI_perm i r).cons j).trans (.swap i j r)
theorem sortI_perm : ∀ l : List Int, (sortI l).Perm l
  | [] => .refl _
  | i :: r => (insI_perm i _).trans ((sortI_perm r).cons i)
theorem insI_sorted (i : Int) : ∀ {l : List Int}, l.Pairwise (· ≤ ·) → (insI i l).Pairwise (· ≤ ·)
  | [], _ => by simp [insI]
  | j :: r, h => by
    rw [List.pairwise_cons] at h
    unfold insI
    split
    · rename_i hij
      rw [List.pairwise_cons]
      refine ⟨fun x hx => ?_, List.pairwise_cons.mpr h⟩
      rcases List.mem_cons.mp hx with rfl | hx
      · exact hij
      · exact Int.le_trans hij (h.1 x hx)
    · rename_i hij
      rw [List.pairwise_cons]
      refine ⟨fun x hx => ?_, insI_sorted i h.2⟩
      rcases List.mem_cons.mp ((insI_perm i r).mem_iff.mp hx) with rfl | hx
      · omega
      · exact h.1 x hx
theorem sortI_sorted : ∀ l : List Int, (sortI l).Pairwise (· ≤ ·)
  | [] => List.Pairwise.nil
  | i :: r => insI_sorted i (sortI_sorted r)
theorem dedI_mem (k : Int) : ∀ l : List Int, k ∈ dedI l ↔ k ∈ l
  | [] => by simp [dedI]
  | i :: r => by
    have ih := dedI_mem k r
    unfold dedI
    split
    · rename_i h
      rw [ih, List.mem_cons]
      exact ⟨.inr, fun z => z.elim (fun e => e ▸ h) id⟩
    · rw [List.mem_cons, List.mem_cons, ih]
theorem dedI_nodup : ∀ l : List Int, (dedI l).Nodup
  | [] => List.nodup_nil
  | i :: r => by
    unfold dedI
    split
    · exact dedI_nodup r
    · rename_i h
      exact List.nodup_cons.mpr ⟨fun z => h ((dedI_mem i r).mp z), dedI_nodup r⟩
theorem sortI_eq {a b : List Int} (h : a.Perm b) (hs : a.Pairwise (· ≤ ·)) : a = sortI b :=
  List.Perm.eq_of_pairwise (fun x y _ _ h1 h2 => Int.le_antisymm h1 h2) hs (sortI_sorted b) (h.trans (sortI_perm b).symm)
theorem perm_of_mem : ∀ {a b : List Int}, a.Nodup → b.Nodup → (∀ k, k ∈ a ↔ k ∈ b) → a.Perm b := by
  intro a b ha hb h
  exact (List.perm_ext_iff_of_nodup ha hb).mpr h
theorem sortSet_eq {a b : List Int} (h : ∀ k, k ∈ a ↔ k ∈ b) (hs : a.Pairwise (· < ·)) : a = sortI (dedI b) := by
  have nd : a.Nodup := hs.imp fun {x y} h e => by omega
  refine sortI_eq (perm_of_mem nd (dedI_nodup b) fun k => (h k).trans (dedI_mem k b).symm) (hs.imp fun {x y} h => by omega)
end Al
end
section
/-! The meanings are kept by the machine: representation of plain data in the abstract heap, and one rule a construct. -/
namespace Al
open PySem PySem.Spec PyProof.Rows L2

/-! ### data in the heap -/
/-- a tuple of the module's own -/
def KT (K : PySem.W.Frag) (a : Addr) (xs : List V) : Prop :=
  ∃ (o : Obj) (its : Array Value) (n : Nat), K.lookup a = some o ∧ (o.cls = .type "tuple" ∧ o.dict = none) ∧ o.data = .seq its n ∧ its.size ≤ sizeLine ∧ Vals xs its.toList
theorem KT.sq {K : PySem.W.Frag} {H : Hp} {a : Addr} {xs : List V} (h : KT K a xs) : SqT K H a xs := by
  obtain ⟨o, its, n, h1, h2, h3, h4, h5⟩ := h
  exact .inr ⟨o, its, n, h1, h2.1, h3, h4, h5⟩
/-- a list of the module's own -/
def KL (K : PySem.W.Frag) (a : Addr) (xs : List V) : Prop :=
  ∃ (o : Obj) (its : Array Value) (n : Nat), K.lookup a = some o ∧ o.cls = .type "list" ∧ o.dict = none ∧ o.data = .seq its n ∧ its.size ≤ sizeLine ∧ Vals xs its.toList
def keyD : Key → D
  | .inl i => .int i
  | .inr x => .str x
inductive DAt (H : Hp) (a : Addr) : List D → List V → Prop
  | dK {kvs : List (Key × V)} : H a = some (.dK kvs) → DAt H a (kvs.map fun p => keyD p.1) (kvs.map (·.2))
mutual
inductive Rp (K : PySem.W.Frag) (O : Addr → Prop) (H : Hp) : V → D → Prop
  | non : Rp K O H .non .non
  | bl (b : Bool) : Rp K O H (.bl b) (.bl b)
  | int (i : Int) : Rp K O H (.int i) (.int i)
  | str (x : Str) : Rp K O H (.str x) (.str x)
  | tup {a : Addr} {o : Obj} {xs : List V} {ds : List D} : H a = some (.frz o (.tup xs)) → o.dict = none → ¬ O a → Rps K O H xs ds → Rp K O H (.ref a) (.tup ds)
  | tupK {a : Addr} {xs : List V} {ds : List D} : KT K a xs → Rps K O H xs ds → Rp K O H (.ref a) (.tup ds)
  | lst {a : Addr} {xs : List V} {ds : List D} : H a = some (.lst xs) → ¬ O a → Rps K O H xs ds → Rp K O H (.ref a) (.lst ds)
  | frz {a : Addr} {xs : List V} {ds : List D} : Rd H a (.lst xs) → ¬ O a → Rps K O H xs ds → Rp K O H (.ref a) (.frz ds)
  | frzK {a : Addr} {xs : List V} {ds : List D} : KL K a xs → Rps K O H xs ds → Rp K O H (.ref a) (.frz ds)
  | dct {a : Addr} {ks vs : List D} {ws : List V} : DAt H a ks ws → ¬ O a → Rps K O H ws vs → Rp K O H (.ref a) (.dct ks vs)
inductive Rps (K : PySem.W.Frag) (O : Addr → Prop) (H : Hp) : List V → List D → Prop
  | nil : Rps K O H [] []
  | cons {v : V} {vs : List V} {d : D} {ds : List D} : Rp K O H v d → Rps K O H vs ds → Rps K O H (v :: vs) (d :: ds)
end
inductive RpO (K : PySem.W.Frag) (O : Addr → Prop) (H : Hp) : Addr → D → List Addr → Prop
  | lst {a : Addr} {xs : List V} {ds : List D} : H a = some (.lst xs) → Rps K O H xs ds → RpO K O H a (.lst ds) [a]
  | dct {a : Addr} {ks vs : List D} {ws : List V} : DAt H a ks ws → Rps K O H ws vs → RpO K O H a (.dct ks vs) [a]

section
variable {K : PySem.W.Frag} {O O' : Addr → Prop} {H H' : Hp}
theorem DAt.tr {a : Addr} {ks : List D} {ws : List V} (h : DAt H a ks ws) (k : ∀ o, H a = some o → H' a = some o) : DAt H' a ks ws := by
  cases h with
  | dK h => exact .dK (k _ h)
theorem DAt.there {a : Addr} {ks : List D} {ws : List V} (h : DAt H a ks ws) : H a ≠ none := by
  cases h with
  | dK h => rw [h]; exact fun z => nomatch z
theorem rd_tr {a : Addr} {u : HO} (h : Rd H a u) (k : ∀ o, H a = some o → H' a = some o) : Rd H' a u := by
  rcases h with h | ⟨o, h⟩
  · exact .inl (k _ h)
  · exact .inr ⟨o, k _ h⟩
theorem rd_there {a : Addr} {u : HO} (h : Rd H a u) : H a ≠ none := by
  rcases h with h | ⟨o, h⟩ <;> (rw [h]; exact fun z => nomatch z)
mutual
theorem Rp.tr (hk : ∀ b o, H b = some o → ¬ O b → H' b = some o) (ho : ∀ b, O' b → O b ∨ H b = none) : ∀ {d : D} {v : V}, Rp K O H v d → Rp K O' H' v d
  | .non, _, .non => .non
  | .bl _, _, .bl b => .bl b
  | .int _, _, .int i => .int i
  | .str _, _, .str x => .str x
  | .tup ds, _, .tup h hd n r => .tup (hk _ _ h n) hd (fun z => (ho _ z).elim n fun e => nomatch h.symm.trans e) (Rps.tr hk ho r)
  | .tup ds, _, .tupK h r => .tupK h (Rps.tr hk ho r)
  | .lst ds, _, .lst h n r => .lst (hk _ _ h n) (fun z => (ho _ z).elim n fun e => nomatch h.symm.trans e) (Rps.tr hk ho r)
  | .frz ds, _, .frz h n r => .frz (rd_tr h fun o e => hk _ o e n) (fun z => (ho _ z).elim n fun e => rd_there h e) (Rps.tr hk ho r)
  | .frz ds, _, .frzK h r => .frzK h (Rps.tr hk ho r)
  | .dct ks vs, _, .dct h n r => .dct (h.tr fun o e => hk _ o e n) (fun z => (ho _ z).elim n fun e => h.there e) (Rps.tr hk ho r)
theorem Rps.tr (hk : ∀ b o, H b = some o → ¬ O b → H' b = some o) (ho : ∀ b, O' b → O b ∨ H b = none) : ∀ {ds : List D} {vs : List V}, Rps K O H vs ds → Rps K O' H' vs ds
  | [], _, .nil => .nil
  | _ :: _, _, .cons h r => .cons (Rp.tr hk ho h) (Rps.tr hk ho r)
end
theorem Rps.length : ∀ {ds : List D} {vs : List V}, Rps K O H vs ds → vs.length = ds.length
  | [], _, .nil => rfl
  | _ :: _, _, .cons _ r => by rw [List.length_cons, List.length_cons, Rps.length r]
theorem Rps.get : ∀ {ds : List D} {vs : List V} {i : Nat} {d : D}, Rps K O H vs ds → ds[i]? = some d → ∃ v, vs[i]? = some v ∧ Rp K O H v d
  | _ :: _, _, 0, _, .cons h _, e => by
    simp at e; subst e; exact ⟨_, rfl, h⟩
  | _ :: _, _, i + 1, _, .cons _ r, e => by
    obtain ⟨v, h1, h2⟩ := Rps.get (i := i) r (by simpa using e)
    exact ⟨v, by simpa using h1, h2⟩
  | [], _, _, _, .nil, e => by simp at e
theorem Rps.getV : ∀ {ds : List D} {vs : List V} {i : Nat} {v : V}, Rps K O H vs ds → vs[i]? = some v → ∃ d, ds[i]? = some d ∧ Rp K O H v d
  | _ :: _, _, 0, _, .cons h _, e => by
    simp at e; subst e; exact ⟨_, rfl, h⟩
  | _ :: _, _, i + 1, _, .cons _ r, e => by
    obtain ⟨v, h1, h2⟩ := Rps.getV (i := i) r (by simpa using e)
    exact ⟨v, by simpa using h1, h2⟩
  | [], _, _, _, .nil, e => by simp at e
theorem Rps.append : ∀ {ds es : List D} {vs ws : List V}, Rps K O H vs ds → Rps K O H ws es → Rps K O H (vs ++ ws) (ds ++ es)
  | [], _, _, _, .nil, s => s
  | _ :: _, _, _, _, .cons h r, s => .cons h (Rps.append r s)
theorem Rps.take : ∀ (n : Nat) {ds : List D} {vs : List V}, Rps K O H vs ds → Rps K O H (vs.take n) (ds.take n)
  | 0, _, _, _ => by simp; exact .nil
  | _ + 1, _, _, .nil => .nil
  | n + 1, _, _, .cons h r => .cons h (Rps.take n r)
theorem Rps.drop : ∀ (n : Nat) {ds : List D} {vs : List V}, Rps K O H vs ds → Rps K O H (vs.drop n) (ds.drop n)
  | 0, _, _, r => r
  | _ + 1, _, _, .nil => .nil
  | n + 1, _, _, .cons _ r => Rps.drop n r
theorem Rps.set {v : V} {d : D} (h : Rp K O H v d) : ∀ (n : Nat) {ds : List D} {vs : List V}, Rps K O H vs ds → Rps K O H (vs.set n v) (ds.set n d)
  | _, _, _, .nil => .nil
  | 0, _, _, .cons _ r => .cons h r
  | n + 1, _, _, .cons g r => .cons g (Rps.set h n r)
theorem Rps.eraseIdx : ∀ (n : Nat) {ds : List D} {vs : List V}, Rps K O H vs ds → Rps K O H (vs.eraseIdx n) (ds.eraseIdx n)
  | _, _, _, .nil => .nil
  | 0, _, _, .cons _ r => r
  | n + 1, _, _, .cons h r => .cons h (Rps.eraseIdx n r)
theorem Rps.flat : ∀ (n : Nat) {ds : List D} {vs : List V}, Rps K O H vs ds → Rps K O H (List.replicate n vs).flatten (List.replicate n ds).flatten
  | 0, _, _, _ => .nil
  | n + 1, ds, vs, h => by
    rw [List.replicate_succ, List.replicate_succ, List.flatten_cons, List.flatten_cons]
    exact Rps.append h (Rps.flat n h)
theorem Rps.ints (is : List Int) : Rps K O H (is.map V.int) (is.map D.int) := by
  induction is with
  | nil => exact .nil
  | cons i r ih => exact .cons (.int i) ih
theorem Rps.of_ints : ∀ {ds : List D} {vs : List V} {is : List Int}, Rps K O H vs ds → intsOf ds = some is → vs = is.map V.int ∧ ds = is.map D.int
  | [], _, is, .nil, e => by
    simp [intsOf] at e; subst e; exact ⟨rfl, rfl⟩
  | .int i :: r, _, is, .cons h t, e => by
    cases h
    simp only [intsOf, Option.bind_eq_some_iff, Option.some.injEq] at e
    obtain ⟨js, e1, rfl⟩ := e
    obtain ⟨h1, h2⟩ := Rps.of_ints t e1
    rw [h1, h2]; exact ⟨rfl, rfl⟩
  | .non :: r, _, is, _, e => by simp [intsOf] at e
  | .bl _ :: r, _, is, _, e => by simp [intsOf] at e
  | .str _ :: r, _, is, _, e => by simp [intsOf] at e
  | .tup _ :: r, _, is, _, e => by simp [intsOf] at e
  | .lst _ :: r, _, is, _, e => by simp [intsOf] at e
  | .dct _ _ :: r, _, is, _, e => by simp [intsOf] at e
  | .obj _ _ :: r, _, is, _, e => by simp [intsOf] at e
  | .frz _ :: r, _, is, _, e => by simp [intsOf] at e
theorem Rps.of_bls : ∀ {ds : List D} {vs : List V} {is : List Bool}, Rps K O H vs ds → blsOf ds = some is → vs = is.map V.bl
  | [], _, is, .nil, e => by
    simp [blsOf] at e; subst e; rfl
  | .bl i :: r, _, is, .cons h t, e => by
    cases h
    simp only [blsOf, Option.bind_eq_some_iff, Option.some.injEq] at e
    obtain ⟨js, e1, rfl⟩ := e
    rw [Rps.of_bls t e1]; rfl
  | .non :: r, _, is, _, e => by simp [blsOf] at e
  | .int _ :: r, _, is, _, e => by simp [blsOf] at e
  | .str _ :: r, _, is, _, e => by simp [blsOf] at e
  | .tup _ :: r, _, is, _, e => by simp [blsOf] at e
  | .lst _ :: r, _, is, _, e => by simp [blsOf] at e
  | .dct _ _ :: r, _, is, _, e => by simp [blsOf] at e
  | .obj _ _ :: r, _, is, _, e => by simp [blsOf] at e
  | .frz _ :: r, _, is, _, e => by simp [blsOf] at e
theorem RpO.tr (hk : ∀ b o, H b = some o → ¬ O b → H' b = some o) (ho : ∀ b, O' b → O b ∨ H b = none) {a : Addr} {d : D} {fp : List Addr} (hf : ∀ b ∈ fp, ∀ o, H b = some o → H' b = some o) (h : RpO K O H a d fp) : RpO K O' H' a d fp := by
  cases h with
  | lst h r => exact .lst (hf a (by simp) _ h) (r.tr hk ho)
  | dct h r => exact .dct (h.tr fun o e => hf a (by simp) o e) (r.tr hk ho)
theorem RpO.there {a : Addr} {d : D} {fp : List Addr} (h : RpO K O H a d fp) : a ∈ fp ∧ ∀ b ∈ fp, H b ≠ none := by
  cases h with
  | lst h r => exact ⟨by simp, fun b hb => by simp at hb; subst hb; rw [h]; exact fun z => nomatch z⟩
  | dct h r => exact ⟨by simp, fun b hb => by simp at hb; subst hb; exact h.there⟩
/-- an owned thing that is owned no more is plain data -/
theorem RpO.rp {a : Addr} {d : D} {fp : List Addr} (h : RpO K O H a d fp) (ho : ∀ b, O' b → O b) (hn : ∀ b ∈ fp, ¬ O' b) (hf : freezes d = true) : Rp K O' H (.ref a) d := by
  cases h with
  | lst h r => exact .lst h (hn a (by simp)) (r.tr (fun _ _ e _ => e) fun b z => .inl (ho b z))
  | dct h r => exact .dct h (hn a (by simp)) (r.tr (fun _ _ e _ => e) fun b z => .inl (ho b z))
theorem Rp.lstS {v : V} {ds : List D} (h : Rp K O H v (.lst ds)) : ∃ a xs, v = .ref a ∧ H a = some (.lst xs) ∧ Rps K O H xs ds := by
  cases h with
  | lst h n r => exact ⟨_, _, rfl, h, r⟩
theorem Rp.lstQ {v : V} {ds : List D} (h : Rp K O H v (.lst ds)) : ∃ a xs, v = .ref a ∧ SqL K H a xs ∧ Rps K O H xs ds := by
  cases h with
  | lst h n r => exact ⟨_, _, rfl, .of h, r⟩
theorem Rp.frzQ {v : V} {ds : List D} (h : Rp K O H v (.frz ds)) : ∃ a xs, v = .ref a ∧ SqL K H a xs ∧ Rps K O H xs ds := by
  cases h with
  | frz h n r => exact ⟨_, _, rfl, .inl h, r⟩
  | frzK h r => exact ⟨_, _, rfl, .inr h, r⟩
theorem Rp.tupQ {v : V} {ds : List D} (h : Rp K O H v (.tup ds)) : ∃ a xs, v = .ref a ∧ SqT K H a xs ∧ Rps K O H xs ds := by
  cases h with
  | tup h hd n r => exact ⟨_, _, rfl, .inl (.inr ⟨_, h⟩), r⟩
  | tupK h r => exact ⟨_, _, rfl, h.sq, r⟩
end

/-! ### the state of a frame -/
def Own (φ : Nat → List Addr) (ρ : Rho) (b : Addr) : Prop := ∃ i p d, ρ[i]? = some (.ow p d) ∧ b ∈ φ i
structure Sl (K : PySem.W.Frag) (O : Addr → Prop) (φ : Nat → List Addr) (σ : L2.St) (ρ : Rho) (H : Hp) : Prop where
  len : σ.length = ρ.length
  fz : ∀ (i : Nat) d, ρ[i]? = some (.fz d) → ∃ v, σ[i]? = some (some v) ∧ Rp K O H v d
  ow : ∀ (i : Nat) p d, ρ[i]? = some (.ow p d) → ∃ a, σ[i]? = some (some (.ref a)) ∧ RpO K O H a d (φ i) ∧ ∀ b ∈ φ i, O b
  dis : ∀ (i j : Nat) p q d e, ρ[i]? = some (.ow p d) → ρ[j]? = some (.ow q e) → i ≠ j → ∀ b ∈ φ i, b ∉ φ j
  trk : ∀ b, O b → H b ≠ none
structure Tr (φ : Nat → List Addr) (ρ : Rho) (O : Addr → Prop) (H : Hp) (φ' : Nat → List Addr) (ρ' : Rho) (O' : Addr → Prop) (H' : Hp) : Prop where
  keep : ∀ b o, H b = some o → ¬ Own φ ρ b → H' b = some o
  own : ∀ b, O' b → O b ∨ H b = none
  mon : ∀ b, Own φ' ρ' b → Own φ ρ b ∨ H b = none
  dom : ∀ b, H b ≠ none → H' b ≠ none
  stay : ∀ b, H b ≠ none → O b → ¬ Own φ ρ b → O' b
structure Gx where
  K : PySem.W.Frag
  H0 : Hp
  J : Addr → Prop
  ad : Nat → Option Addr
  fp : Nat → List Addr
structure St (G : Gx) (O : Addr → Prop) (φ : Nat → List Addr) (σ : L2.St) (ρ : Rho) (H : Hp) : Prop extends Sl G.K O φ σ ρ H where
  dom : ∀ b, G.H0 b ≠ none → H b ≠ none
  base : ∀ b o, G.H0 b = some o → ¬ G.J b → H b = some o
  own : ∀ b, Own φ ρ b → G.J b ∨ G.H0 b = none
  io : ∀ (i : Nat) d, ρ[i]? = some (.ow true d) → ∃ a, G.ad i = some a ∧ σ[i]? = some (some (.ref a))
  mkd : ∀ (i : Nat), ρ[i]? = some .mk → ∃ a, G.ad i = some a ∧ σ[i]? = some (some (.ref a))
  new : ∀ (i : Nat) p d, ρ[i]? = some (.ow p d) → ∀ b ∈ φ i, (p = true ∧ b ∈ G.fp i) ∨ G.H0 b = none

section
variable {K : PySem.W.Frag} {G : Gx} {O O1 O2 : Addr → Prop} {φ φ1 φ2 : Nat → List Addr} {σ : L2.St} {ρ ρ1 ρ2 : Rho} {H H1 H2 : Hp}
theorem Sl.sub (h : Sl K O φ σ ρ H) {b : Addr} (o : Own φ ρ b) : O b := by
  obtain ⟨i, p, d, e, hb⟩ := o
  obtain ⟨_, _, _, q⟩ := h.ow i p d e
  exact q b hb
theorem Tr.refl : Tr φ ρ O H φ ρ O H := ⟨fun _ _ e _ => e, fun _ e => .inl e, fun _ e => .inl e, fun _ e => e, fun _ _ e _ => e⟩
theorem Tr.trans (a : Tr φ ρ O H φ1 ρ1 O1 H1) (b : Tr φ1 ρ1 O1 H1 φ2 ρ2 O2 H2) : Tr φ ρ O H φ2 ρ2 O2 H2 where
  keep := fun c o e n => b.keep c o (a.keep c o e n) fun z => (a.mon c z).elim n fun q => by rw [q] at e; cases e
  own := fun c z => by
    rcases b.own c z with z | z
    · exact a.own c z
    · refine .inr ?_
      cases q : H c with
      | none => rfl
      | some o => exact absurd z (a.dom c (by rw [q]; exact fun z => nomatch z))
  mon := fun c z => by
    rcases b.mon c z with z | z
    · exact a.mon c z
    · refine .inr ?_
      cases q : H c with
      | none => rfl
      | some o => exact absurd z (a.dom c (by rw [q]; exact fun z => nomatch z))
  dom := fun c z => b.dom c (a.dom c z)
  stay := fun c z o n => b.stay c (a.dom c z) (a.stay c z o n) fun y => (a.mon c y).elim n z
theorem Sl.keeps (h : Sl K O φ σ ρ H) (t : Tr φ ρ O H φ1 ρ1 O1 H1) : ∀ b o, H b = some o → ¬ O b → H1 b = some o := fun b o e n => t.keep b o e fun z => n (h.sub z)
theorem Sl.rp (h : Sl K O φ σ ρ H) (t : Tr φ ρ O H φ1 ρ1 O1 H1) {v : V} {d : D} (r : Rp K O H v d) : Rp K O1 H1 v d := r.tr (h.keeps t) t.own
theorem Sl.rps (h : Sl K O φ σ ρ H) (t : Tr φ ρ O H φ1 ρ1 O1 H1) {v : List V} {d : List D} (r : Rps K O H v d) : Rps K O1 H1 v d := r.tr (h.keeps t) t.own
/-- the heap has grown, all that stood stands -/
theorem Sl.grow (h : Sl K O φ σ ρ H) (s : Same H H1) : Sl K O φ σ ρ H1 where
  len := h.len
  fz := fun i d e => let ⟨v, e1, r⟩ := h.fz i d e; ⟨v, e1, r.tr (fun b o q _ => s b o q) fun _ z => .inl z⟩
  ow := fun i p d e => let ⟨a, e1, r, q⟩ := h.ow i p d e; ⟨a, e1, r.tr (fun b o q _ => s b o q) (fun _ z => .inl z) fun b _ o q => s b o q, q⟩
  dis := h.dis
  trk := fun b z => by
    cases q : H b with
    | none => exact absurd q (h.trk b z)
    | some o => rw [s b o q]; exact fun z => nomatch z
theorem Same.dom (s : Same H H1) : ∀ b, H b ≠ none → H1 b ≠ none := fun b z => by
  cases q : H b with
  | none => exact absurd q z
  | some o => rw [s b o q]; exact fun z => nomatch z
theorem Tr.grow (s : Same H H1) : Tr φ ρ O H φ ρ O H1 := ⟨fun b o e _ => s b o e, fun _ z => .inl z, fun _ z => .inl z, Same.dom s, fun _ _ z _ => z⟩
theorem St.grow (h : St G O φ σ ρ H) (s : Same H H1) : St G O φ σ ρ H1 where
  toSl := h.toSl.grow s
  dom := fun b z => Same.dom s b (h.dom b z)
  base := fun b o e n => s b o (h.base b o e n)
  own := h.own
  io := h.io
  mkd := h.mkd
  new := h.new
/-- new addresses are held aside -/
theorem Sl.aside (h : Sl K O φ σ ρ H) (fp : List Addr) (hn : ∀ b ∈ fp, H b = none) (s : Same H H1) (ht : ∀ b ∈ fp, H1 b ≠ none) : Sl K (fun b => O b ∨ b ∈ fp) φ σ ρ H1 where
  len := h.len
  fz := fun i d e => let ⟨v, e1, r⟩ := h.fz i d e; ⟨v, e1, r.tr (fun b o q _ => s b o q) fun b z => z.elim .inl fun z => .inr (hn b z)⟩
  ow := fun i p d e => let ⟨a, e1, r, q⟩ := h.ow i p d e; ⟨a, e1, r.tr (fun b o q _ => s b o q) (fun b z => z.elim .inl fun z => .inr (hn b z)) fun b _ o q => s b o q, fun b z => .inl (q b z)⟩
  dis := h.dis
  trk := fun b z => z.elim (fun z => Same.dom s b (h.trk b z)) (ht b)
theorem St.aside (h : St G O φ σ ρ H) (fp : List Addr) (hn : ∀ b ∈ fp, H b = none) (s : Same H H1) (ht : ∀ b ∈ fp, H1 b ≠ none) : St G (fun b => O b ∨ b ∈ fp) φ σ ρ H1 where
  toSl := h.toSl.aside fp hn s ht
  dom := fun b z => Same.dom s b (h.dom b z)
  base := fun b o e n => s b o (h.base b o e n)
  own := h.own
  io := h.io
  mkd := h.mkd
  new := h.new
theorem St.none0 (h : St G O φ σ ρ H) {b : Addr} (e : H b = none) : G.H0 b = none := by
  cases q : G.H0 b with
  | none => rfl
  | some o => exact absurd e (h.dom b (by rw [q]; exact fun z => nomatch z))
theorem Sl.fresh (h : Sl K O φ σ ρ H) {b : Addr} (e : H b = none) : ¬ O b := fun z => h.trk b z e
/-- less is owned -/
theorem Sl.less (h : Sl K O φ σ ρ H) (ho : ∀ b, O1 b → O b) (hk : ∀ b, Own φ ρ b → O1 b) : Sl K O1 φ σ ρ H where
  len := h.len
  fz := fun i d e => let ⟨v, e1, r⟩ := h.fz i d e; ⟨v, e1, r.tr (fun b o q _ => q) fun b z => .inl (ho b z)⟩
  ow := fun i p d e => let ⟨a, e1, r, q⟩ := h.ow i p d e; ⟨a, e1, r.tr (fun b o q _ => q) (fun b z => .inl (ho b z)) fun b _ o q => q, fun b z => hk b ⟨i, p, d, e, z⟩⟩
  dis := h.dis
  trk := fun b z => h.trk b (ho b z)
theorem St.less (h : St G O φ σ ρ H) (ho : ∀ b, O1 b → O b) (hk : ∀ b, Own φ ρ b → O1 b) : St G O1 φ σ ρ H where
  toSl := h.toSl.less ho hk
  dom := h.dom
  base := h.base
  own := h.own
  io := h.io
  mkd := h.mkd
  new := h.new
theorem get_set {i j : Nat} {s t : S} (h : (ρ.set i s)[j]? = some t) : (i = j ∧ t = s ∧ i < ρ.length) ∨ (i ≠ j ∧ ρ[j]? = some t) := by
  by_cases e : i = j
  · subst e
    by_cases hl : i < ρ.length
    · rw [List.getElem?_set_self hl] at h
      exact .inl ⟨rfl, (Option.some.inj h).symm, hl⟩
    · rw [List.getElem?_eq_none (by simpa using hl)] at h; cases h
  · rw [List.getElem?_set_ne e] at h
    exact .inr ⟨e, h⟩
/-- a slot is frozen -/
theorem St.freeze (h : St G O φ σ ρ H) {i : Nat} {d : D} (e : ρ[i]? = some (.ow false d)) (hf : freezes d = true) :
    ∃ O1 : Addr → Prop, St G O1 φ σ (ρ.set i (.fz d)) H ∧ Tr φ ρ O H φ (ρ.set i (.fz d)) O1 H ∧ ∃ v, σ[i]? = some (some v) ∧ Rp G.K O1 H v d := by
  obtain ⟨a, ea, ra, qa⟩ := h.ow i false d e
  have rpv : Rp G.K (fun b => O b ∧ b ∉ φ i) H (.ref a) d := ra.rp (fun b z => z.1) (fun b hb z => z.2 hb) hf
  have nown : ∀ b, Own φ (ρ.set i (.fz d)) b → Own φ ρ b ∧ b ∉ φ i := fun b ⟨j, p, d', ej, hb⟩ => by
    rcases get_set ej with ⟨_, q, _⟩ | ⟨ne, q⟩
    · cases q
    · exact ⟨⟨j, p, d', q, hb⟩, fun z => h.dis i j false p d d' e q ne b z hb⟩
  refine ⟨fun b => O b ∧ b ∉ φ i, ⟨⟨by rw [List.length_set]; exact h.len, fun j d' ej => ?_, fun j p d' ej => ?_, fun j k p q d1 d2 e1 e2 ne => ?_, fun b z => h.trk b z.1⟩, h.dom, h.base, fun b z => h.own b (nown b z).1, fun j d' ej => ?_, fun j ej => ?_, fun j p d' ej => ?_⟩,
    ⟨fun _ _ q _ => q, fun b z => .inl z.1, fun b z => .inl (nown b z).1, fun _ z => z, fun b _ z n => ⟨z, fun y => n ⟨i, false, d, e, y⟩⟩⟩, .ref a, ea, rpv⟩
  · rcases get_set ej with ⟨rfl, q, _⟩ | ⟨ne, q⟩
    · cases q; exact ⟨.ref a, ea, rpv⟩
    · obtain ⟨v, ev, r⟩ := h.fz j d' q
      exact ⟨v, ev, r.tr (fun _ _ q _ => q) fun b z => .inl z.1⟩
  · rcases get_set ej with ⟨_, q, _⟩ | ⟨ne, q⟩
    · cases q
    · obtain ⟨a', ev, r, qo⟩ := h.ow j p d' q
      exact ⟨a', ev, r.tr (fun _ _ q _ => q) (fun b z => .inl z.1) fun _ _ _ q => q, fun b hb => ⟨qo b hb, fun z => h.dis i j false p d d' e q ne b z hb⟩⟩
  · rcases get_set e1 with ⟨_, q, _⟩ | ⟨_, q1⟩
    · cases q
    · rcases get_set e2 with ⟨_, q, _⟩ | ⟨_, q2⟩
      · cases q
      · exact h.dis j k p q d1 d2 q1 q2 ne
  · rcases get_set ej with ⟨_, q, _⟩ | ⟨ne, q⟩
    · cases q
    · exact h.io j d' q
  · rcases get_set ej with ⟨_, q, _⟩ | ⟨ne, q⟩
    · cases q
    · exact h.mkd j q
  · rcases get_set ej with ⟨_, q, _⟩ | ⟨ne, q⟩
    · cases q
    · exact h.new j p d' q
end

/-! ### what an expression gives -/
def RpR (G : Gx) (O : Addr → Prop) (φ : Nat → List Addr) (σ : L2.St) (ρ : Rho) (Hs H : Hp) (v : V) : R → Prop
  | .val d => Rp G.K O H v d
  | .sl i => σ[i]? = some (some v)
  | .fr d => ∃ a fp, v = .ref a ∧ RpO G.K O H a d fp ∧ ∀ b ∈ fp, O b ∧ Hs b = none ∧ ¬ Own φ ρ b
inductive RpAs (G : Gx) (O : Addr → Prop) (σ : L2.St) (H : Hp) : List V → List R → Prop
  | nil : RpAs G O σ H [] []
  | val {v : V} {vs : List V} {d : D} {rs : List R} : Rp G.K O H v d → RpAs G O σ H vs rs → RpAs G O σ H (v :: vs) (.val d :: rs)
  | sl {v : V} {vs : List V} {i : Nat} {rs : List R} : σ[i]? = some (some v) → RpAs G O σ H vs rs → RpAs G O σ H (v :: vs) (.sl i :: rs)

def tM (G : Gx) (m : M) : TE := fun σ H Q => ∃ O φ ρ r ρ', St G O φ σ ρ H ∧ m ρ = some (r, ρ') ∧
  ∀ v H' O' φ', St G O' φ' σ ρ' H' → Tr φ ρ O H φ' ρ' O' H' → RpR G O' φ' σ ρ' H H' v r → Q v H'
def tT (G : Gx) (m : MT) : TT := fun σ H Q => ∃ O φ ρ b ρ', St G O φ σ ρ H ∧ m ρ = some (b, ρ') ∧
  ∀ H' O' φ', St G O' φ' σ ρ' H' → Tr φ ρ O H φ' ρ' O' H' → Q b H'
def tA (G : Gx) (ms : List M) : TA := fun σ H Q => ∃ O φ ρ rs ρ', St G O φ σ ρ H ∧ evs ms ρ = some (rs, ρ') ∧
  ∀ vs H' O' φ', St G O' φ' σ ρ' H' → Tr φ ρ O H φ' ρ' O' H' → RpAs G O' σ H' vs rs → Q vs H'
def tS (G : Gx) (m : MS) : TS := fun D σ H => ∃ O φ ρ fl ρ', St G O φ σ ρ H ∧ m ρ = some (fl, ρ') ∧ (match fl with
  | .nx => ∀ σ' H' O' φ', St G O' φ' σ' ρ' H' → Tr φ ρ O H φ' ρ' O' H' → D.nx σ' H'
  | .bk => ∀ σ' H' O' φ', St G O' φ' σ' ρ' H' → Tr φ ρ O H φ' ρ' O' H' → D.bk σ' H'
  | .ct => ∀ σ' H' O' φ', St G O' φ' σ' ρ' H' → Tr φ ρ O H φ' ρ' O' H' → D.ct σ' H'
  | .rt r => ∀ σ' v H' O' φ', St G O' φ' σ' ρ' H' → Tr φ ρ O H φ' ρ' O' H' → RpR G O' φ' σ' ρ' H H' v r → D.rt v H')
def XE (X : Cx) (e : Expr) (m : M) : Prop := ∀ G : Gx, G.K = X.K → PE X e (tM G m)
def XT (X : Cx) (e : Expr) (m : MT) : Prop := ∀ G : Gx, G.K = X.K → PT X e (tT G m)
def XW (X : Cx) (e : Expr) (m : MT) : Prop := ∀ G : Gx, G.K = X.K → PW X e (tT G m)
def XA (X : Cx) (es : List Expr) (ms : List M) : Prop := ∀ G : Gx, G.K = X.K → PA X es (tA G ms)
def XS (X : Cx) (st : Stmt) (m : MS) : Prop := ∀ G : Gx, G.K = X.K → PS X st (tS G m)
def XSs (X : Cx) (st : List Stmt) (m : MS) : Prop := ∀ G : Gx, G.K = X.K → PSs X st (tS G m)

section
variable {X : Cx} {e : Expr} {es : List Expr} {st : Stmt} {sts : List Stmt}
theorem _root_.L2.PE.imp {t t' : TE} (h : PE X e t) (k : ∀ σ H Q, t' σ H Q → t σ H Q) : PE X e t' := ⟨fun pins s σ H Q I q => h.run pins s σ H Q I (k _ _ _ q)⟩
theorem _root_.L2.PT.imp {t t' : TT} (h : PT X e t) (k : ∀ σ H Q, t' σ H Q → t σ H Q) : PT X e t' := ⟨fun pins s σ H Q I q => h.run pins s σ H Q I (k _ _ _ q)⟩
theorem _root_.L2.PW.imp {t t' : TT} (h : PW X e t) (k : ∀ σ H Q, t' σ H Q → t σ H Q) : PW X e t' := ⟨fun w pins s σ H Q I q => h.run w pins s σ H Q I (k _ _ _ q)⟩
theorem _root_.L2.PA.imp {t t' : TA} (h : PA X es t) (k : ∀ σ H Q, t' σ H Q → t σ H Q) : PA X es t' := ⟨fun pos pins s σ H Q I q => h.run pos pins s σ H Q I (k _ _ _ q)⟩
theorem _root_.L2.PS.imp {t t' : TS} (h : PS X st t) (k : ∀ D σ H, t' D σ H → t D σ H) : PS X st t' := ⟨fun pins s σ H D I q => h.run pins s σ H D I (k _ _ _ q)⟩
theorem _root_.L2.PSs.imp {t t' : TS} (h : PSs X sts t) (k : ∀ D σ H, t' D σ H → t D σ H) : PSs X sts t' := ⟨fun pins s σ H D I q => h.run pins s σ H D I (k _ _ _ q)⟩
end

section
variable {G : Gx} {O O1 : Addr → Prop} {φ φ1 : Nat → List Addr} {σ : L2.St} {ρ ρ1 : Rho} {H H1 : Hp} {Q : VK}
theorem RpAs.tr (h : St G O φ σ ρ H) (t : Tr φ ρ O H φ1 ρ1 O1 H1) : ∀ {vs : List V} {rs : List R}, RpAs G O σ H vs rs → RpAs G O1 σ H1 vs rs
  | _, _, .nil => .nil
  | _, _, .val r q => .val (h.rp t r) (RpAs.tr h t q)
  | _, _, .sl e q => .sl e (RpAs.tr h t q)
theorem RpR.back {Hs Ht : Hp} {v : V} {r : R} (q : RpR G O φ σ ρ Ht H v r) (k : ∀ b, Hs b ≠ none → Ht b ≠ none) : RpR G O φ σ ρ Hs H v r := by
  cases r with
  | val d => exact q
  | sl i => exact q
  | fr d =>
    obtain ⟨a, fp, h1, h2, h3⟩ := q
    refine ⟨a, fp, h1, h2, fun b hb => ⟨(h3 b hb).1, ?_, (h3 b hb).2.2⟩⟩
    cases e : Hs b with
    | none => rfl
    | some o => exact absurd (h3 b hb).2.1 (k b (by rw [e]; exact fun z => nomatch z))
/-- the freshness of a value is forgotten -/
theorem RpR.forget {φs : Nat → List Addr} {ρs : Rho} {Os : Addr → Prop} {Hs : Hp} {v : V} {r r' : R} (h : St G O φ σ ρ H) (t : Tr φs ρs Os Hs φ ρ O H) (q : RpR G O φ σ ρ Hs H v r) (e : forget r = some r') :
    ∃ O1 : Addr → Prop, St G O1 φ σ ρ H ∧ Tr φs ρs Os Hs φ ρ O1 H ∧ RpR G O1 φ σ ρ Hs H v r' ∧ ∀ d, r' ≠ .fr d := by
  cases r with
  | val d =>
    cases e
    exact ⟨O, h, t, q, fun d z => nomatch z⟩
  | sl i =>
    cases e
    exact ⟨O, h, t, q, fun d z => nomatch z⟩
  | fr d =>
    obtain ⟨a, fp, rfl, ra, ho⟩ := q
    unfold Al.forget at e
    by_cases hf : freezes d = true
    · simp only [hf, if_true] at e
      cases e
      have rp : Rp G.K (fun b => O b ∧ b ∉ fp) H (.ref a) d := ra.rp (fun b z => z.1) (fun b hb z => z.2 hb) hf
      refine ⟨fun b => O b ∧ b ∉ fp, h.less (fun b z => z.1) fun b z => ⟨h.sub z, fun hb => (ho b hb).2.2 z⟩, ⟨t.keep, fun b z => t.own b z.1, t.mon, t.dom, fun b z o n => ⟨t.stay b z o n, fun hb => z (ho b hb).2.1⟩⟩, rp, fun d z => nomatch z⟩
    · simp only [hf] at e
      cases e
theorem force_ok {φs : Nat → List Addr} {ρs : Rho} {Os : Addr → Prop} {Hs : Hp} {v : V} {r : R} {d : D} {ρ' : Rho} (h : St G O φ σ ρ H) (t : Tr φs ρs Os Hs φ ρ O H) (q : RpR G O φ σ ρ Hs H v r) (e : force r ρ = some (d, ρ')) :
    ∃ O1 : Addr → Prop, St G O1 φ σ ρ' H ∧ Tr φs ρs Os Hs φ ρ' O1 H ∧ Rp G.K O1 H v d := by
  cases r with
  | val d' =>
    cases e
    exact ⟨O, h, t, q⟩
  | fr d' =>
    unfold force at e
    by_cases hf : freezes d' = true
    · simp only [hf, if_true] at e
      cases e
      obtain ⟨O1, h1, t1, r1, _⟩ := RpR.forget (r' := .val d) h t q (by simp only [Al.forget, hf, if_true])
      exact ⟨O1, h1, t1, r1⟩
    · simp only [hf] at e
      cases e
  | sl i =>
    simp only [force] at e
    split at e
    · rename_i d' hd
      cases e
      obtain ⟨v', ev, r⟩ := h.fz i d hd
      have q' : σ[i]? = some (some v) := q
      rw [q'] at ev
      cases ev
      exact ⟨O, h, t, r⟩
    · rename_i d' hd
      by_cases hf : freezes d' = true
      · simp only [hf, if_true] at e
        cases e
        obtain ⟨O1, h1, t1, v', ev, r⟩ := h.freeze hd hf
        have q' : σ[i]? = some (some v) := q
        rw [q'] at ev
        cases ev
        exact ⟨O1, h1, t.trans t1, r⟩
      · simp only [hf] at e
        cases e
    · cases e
theorem forces_ok : ∀ {vs : List V} {rs : List R} {ds : List D} {O : Addr → Prop} {ρ ρ' : Rho}, St G O φ σ ρ H → RpAs G O σ H vs rs → forces rs ρ = some (ds, ρ') →
    ∃ O1 : Addr → Prop, St G O1 φ σ ρ' H ∧ Tr φ ρ O H φ ρ' O1 H ∧ Rps G.K O1 H vs ds
  | _, [], ds, O, ρ, ρ', h, .nil, e => by
    cases e
    exact ⟨O, h, .refl, .nil⟩
  | _, .val d :: rs, ds, O, ρ, ρ', h, .val r k, e => by
    simp only [forces, force, Option.bind_some, Option.bind_eq_some_iff, Option.some.injEq, Prod.exists] at e
    obtain ⟨ds1, ρ1, e1, e2⟩ := e
    cases e2
    obtain ⟨O1, h1, t1, r1⟩ := forces_ok h k e1
    exact ⟨O1, h1, t1, .cons (h.rp t1 r) r1⟩
  | _, .sl i :: rs, ds, O, ρ, ρ', h, .sl q k, e => by
    simp only [forces, Option.bind_eq_some_iff, Option.some.injEq, Prod.exists] at e
    obtain ⟨d, ρ1, e1, ds1, ρ2, e2, e3⟩ := e
    cases e3
    obtain ⟨O1, h1, t1, r1⟩ := force_ok (r := .sl i) h .refl q e1
    obtain ⟨O2, h2, t2, r2⟩ := forces_ok h1 (RpAs.tr h t1 k) e2
    exact ⟨O2, h2, t1.trans t2, .cons (h1.rp t2 r1) r2⟩
end
end Al
end
section
namespace Al
open PySem PySem.Spec PyProof.Rows L2
section
variable {G : Gx} {O O1 : Addr → Prop} {φ φ1 : Nat → List Addr} {σ : L2.St} {ρ ρ1 : Rho} {H H1 : Hp} {Q : VK}
theorem RpR.mv {Hs : Hp} (h : St G O φ σ ρ H) (t : Tr φ ρ O H φ1 ρ1 O1 H1) {v : V} {r : R} (q : RpR G O φ σ ρ Hs H v r) (hr : ∀ d, r ≠ .fr d) : RpR G O1 φ1 σ ρ1 Hs H1 v r := by
  cases r with
  | val d => exact h.rp t q
  | sl i => exact q
  | fr d => exact absurd rfl (hr d)
theorem RpAs.of {Hs : Hp} {v : V} {vs : List V} {r : R} {rs : List R} (q : RpR G O φ σ ρ Hs H v r) (hr : ∀ d, r ≠ .fr d) (k : RpAs G O σ H vs rs) : RpAs G O σ H (v :: vs) (r :: rs) := by
  cases r with
  | val d => exact .val q k
  | sl i => exact .sl q k
  | fr d => exact absurd rfl (hr d)
theorem tM.mono {m : M} {Q Q' : VK} (h : tM G m σ H Q) (k : ∀ v H', Q v H' → Q' v H') : tM G m σ H Q' := by
  obtain ⟨O, φ, ρ, r, ρ', h1, h2, h3⟩ := h
  exact ⟨O, φ, ρ, r, ρ', h1, h2, fun v H' O' φ' a b c => k _ _ (h3 v H' O' φ' a b c)⟩
theorem tA_cons {m : M} {ms : List M} {Q : List V → Hp → Prop} (h : tA G (m :: ms) σ H Q) : tM G m σ H fun x H1 => tA G ms σ H1 fun xs H2 => Q (x :: xs) H2 := by
  obtain ⟨O, φ, ρ, rs, ρ', h1, h2, h3⟩ := h
  simp only [evs, Option.bind_eq_some_iff, Option.some.injEq, Prod.exists] at h2
  obtain ⟨r, ρ1, e1, r', e2, rs1, ρ2, e3, e4⟩ := h2
  cases e4
  refine ⟨O, φ, ρ, r, ρ1, h1, e1, fun v H1 O1 φ1 s1 t1 q1 => ?_⟩
  obtain ⟨O2, s2, t2, q2, nf⟩ := RpR.forget s1 t1 q1 e2
  exact ⟨O2, φ1, ρ1, rs1, ρ', s2, e3, fun vs H3 O3 φ3 s3 t3 q3 => h3 _ _ O3 φ3 s3 (t2.trans t3) (.of (RpR.mv s2 t3 q2 nf) nf q3)⟩
theorem tA_nil {Q : List V → Hp → Prop} (h : tA G [] σ H Q) : Q [] H := by
  obtain ⟨O, φ, ρ, rs, ρ', h1, h2, h3⟩ := h
  cases h2
  exact h3 [] H O φ h1 .refl .nil
theorem tA_two {a b : M} {Q : List V → Hp → Prop} (h : tA G [a, b] σ H Q) : tM G a σ H fun x H1 => tM G b σ H1 fun y H2 => Q [x, y] H2 :=
  (tA_cons h).mono fun _ _ h => (tA_cons h).mono fun _ _ h => tA_nil h
theorem tA_one {a : M} {Q : List V → Hp → Prop} (h : tA G [a] σ H Q) : tM G a σ H fun x H1 => Q [x] H1 := (tA_cons h).mono fun _ _ h => tA_nil h

/-! ### operations by values -/
def Pk (K : PySem.W.Frag) (O : Addr → Prop) (H : Hp) (v : V) (d : D) : Prop := Rp K O H v d ∨ ∃ a fp, v = .ref a ∧ RpO K O H a d fp
inductive Pks (K : PySem.W.Frag) (O : Addr → Prop) (H : Hp) : List V → List D → Prop
  | nil : Pks K O H [] []
  | cons {v : V} {vs : List V} {d : D} {ds : List D} : Pk K O H v d → Pks K O H vs ds → Pks K O H (v :: vs) (d :: ds)
def Res (K : PySem.W.Frag) (O : Addr → Prop) (H : Hp) (Q : VK) : R → Prop
  | .val d => ∀ v H', Same H H' → Rp K O H' v d → Q v H'
  | .fr d => ∀ a fp H', Same H H' → (∀ b ∈ fp, H b = none) → RpO K (fun b => O b ∨ b ∈ fp) H' a d fp → Q (.ref a) H'
  | .sl _ => False
def notSl : R → Bool
  | .sl _ => false
  | _ => true
def rOp (K : PySem.W.Frag) (f : List D → Option R) : List V → Hp → VK → Prop := fun vs H Q => ∃ O ds r, (∀ b, O b → H b ≠ none) ∧ Pks K O H vs ds ∧ f ds = some r ∧ (notSl r = true → Res K O H Q r)
def rKp (K : PySem.W.Frag) (f : List D → Option R) : List V → Hp → VK → Prop := fun vs H Q => ∃ O ds r, (∀ b, O b → H b ≠ none) ∧ Rps K O H vs ds ∧ f ds = some r ∧ (notSl r = true → Res K O H Q r)
theorem res_ok {r : R} (h : St G O φ σ ρ H) (k : ∀ v H' O' φ', St G O' φ' σ ρ H' → Tr φ ρ O H φ' ρ O' H' → RpR G O' φ' σ ρ H H' v r → Q v H') (ns : notSl r = true) : Res G.K O H Q r := by
  cases r with
  | val d => exact fun v H' s q => k v H' O φ (h.grow s) (.grow s) q
  | sl i => cases ns
  | fr d =>
    intro a fp H' s hn q
    refine k (.ref a) H' (fun b => O b ∨ b ∈ fp) φ (h.aside fp hn s fun b hb => q.there.2 b hb) ⟨fun b o e _ => s b o e, fun b z => z.elim .inl fun z => .inr (hn b z), fun _ z => .inl z, Same.dom s, fun _ _ z _ => .inl z⟩ ⟨a, fp, rfl, q, fun b hb => ⟨.inr hb, hn b hb, fun z => h.fresh (hn b hb) (h.sub z)⟩⟩
theorem peeks_ok : ∀ {rs : List R} {vs : List V} {ds : List D}, St G O φ σ ρ H → RpAs G O σ H vs rs → peeks ρ rs = some ds → Pks G.K O H vs ds
  | [], _, ds, h, .nil, e => by cases e; exact .nil
  | .val d :: rs, _, ds, h, .val r k, e => by
    simp only [peeks, peek, Option.bind_some, Option.bind_eq_some_iff, Option.some.injEq] at e
    obtain ⟨ds1, e1, rfl⟩ := e
    exact .cons (.inl r) (peeks_ok h k e1)
  | .sl i :: rs, _, ds, h, .sl q k, e => by
    simp only [peeks, Option.bind_eq_some_iff, Option.some.injEq] at e
    obtain ⟨d, e0, ds1, e1, rfl⟩ := e
    refine .cons ?_ (peeks_ok h k e1)
    simp only [peek] at e0
    split at e0
    · rename_i d' hd
      cases e0
      obtain ⟨v', ev, r⟩ := h.fz i d hd
      rw [q] at ev; cases ev
      exact .inl r
    · rename_i p d' hd
      cases e0
      obtain ⟨a, ev, r, _⟩ := h.ow i _ d hd
      rw [q] at ev; cases ev
      exact .inr ⟨a, _, rfl, r⟩
    · cases e0
theorem op_t {f : List D → Option R} {ms : List M} (h : tM G (opS f ms) σ H Q) : tA G ms σ H fun vs H1 => rOp G.K f vs H1 Q := by
  obtain ⟨O, φ, ρ, r, ρ', h1, h2, h3⟩ := h
  simp only [opS, Option.bind_eq_some_iff, Option.some.injEq, Prod.exists] at h2
  obtain ⟨rs, ρ1, e1, ds, e2, r', e3, e4⟩ := h2
  cases e4
  exact ⟨O, φ, ρ, rs, ρ', h1, e1, fun vs H1 O1 φ1 s1 t1 q1 => ⟨O1, ds, r, s1.trk, peeks_ok s1 q1 e2, e3, res_ok s1 fun v H' O' φ' s2 t2 q2 => h3 v H' O' φ' s2 (t1.trans t2) (q2.back t1.dom)⟩⟩
theorem keep_t {f : List D → Option R} {ms : List M} (h : tM G (keepS f ms) σ H Q) : tA G ms σ H fun vs H1 => rKp G.K f vs H1 Q := by
  obtain ⟨O, φ, ρ, r, ρ', h1, h2, h3⟩ := h
  simp only [keepS, Option.bind_eq_some_iff, Option.some.injEq, Prod.exists] at h2
  obtain ⟨rs, ρ1, e1, ds, ρ2, e2, r', e3, e4⟩ := h2
  cases e4
  refine ⟨O, φ, ρ, rs, ρ1, h1, e1, fun vs H1 O1 φ1 s1 t1 q1 => ?_⟩
  obtain ⟨O2, s2, t2, q2⟩ := forces_ok s1 q1 e2
  exact ⟨O2, ds, r, s2.trk, q2, e3, res_ok s2 fun v H' O' φ' s3 t3 q3 => h3 v H' O' φ' s3 ((t1.trans t2).trans t3) (q3.back (t1.trans t2).dom)⟩
theorem valT_t {m : M} {Q : Bool → Hp → Prop} (h : tT G (valT m) σ H Q) : tM G m σ H fun x H' => ∃ k, x = .bl k ∧ Q k H' := by
  obtain ⟨O, φ, ρ, b, ρ', h1, h2, h3⟩ := h
  simp only [valT, Option.bind_eq_some_iff, Prod.exists] at h2
  obtain ⟨r, ρ1, e1, e2⟩ := h2
  split at e2
  · cases e2
    refine ⟨O, φ, ρ, _, ρ', h1, e1, fun v H' O' φ' s t q => ?_⟩
    have q : Rp G.K O' H' v (.bl b) := q
    cases q
    exact ⟨b, rfl, h3 H' O' φ' s t⟩
  · cases e2
end

section
variable {X : Cx} {e a b c : Expr} {es : List Expr} {st : Stmt} {sts : List Stmt} {m ma mb mc : M} {ms : List M} {pos : Pos} {f g : List D → Option R}
theorem xa_nil : XA X [] [] := fun G _ => pa_nil.imp fun _ _ _ h => tA_nil h
theorem xa_cons (ha : XE X e m) (hr : XA X es ms) (hs : starEach (e :: es) X.env = (false, eval e X.env) :: starEach es X.env := by rfl) : XA X (e :: es) (m :: ms) :=
  fun G hG => (pa_cons (ha G hG) (hr G hG) hs).imp fun _ _ _ h => tA_cons h

/-! ### names, constants -/
theorem x_name (i : Nat) {x : Str} {pos : Pos} (hN : X.N[i]? = some x := by rfl) (hv : Vis X.env.scope x := by first | exact Or.inl rfl | exact Or.inr (Or.inl rfl) | exact Or.inr (Or.inr rfl)) (hd : (x == ("__debug__" : Str)) = false := by decide)
    (hcd : (x == ("__classdict__" : Str)) = false := by decide) : XE X (.Name x pos) (nameS i) := fun G _ => (pe_var hN hv hd hcd).imp fun σ H Q h => by
  obtain ⟨O, φ, ρ, r, ρ', h1, h2, h3⟩ := h
  simp only [nameS] at h2
  split at h2
  · rename_i d hd
    cases h2
    obtain ⟨v, ev, r⟩ := h1.fz i d hd
    exact ⟨v, ev, h3 v H O φ h1 .refl r⟩
  · rename_i p d hd
    cases h2
    obtain ⟨a, ev, r, _⟩ := h1.ow i p d hd
    exact ⟨_, ev, h3 _ H O φ h1 .refl ev⟩
  · cases h2
theorem x_const {t : TE} {d : D} {v : V} (h : PE X e t) (ht : t = tC v) (hr : ∀ K O H, Rp K O H v d) : XE X e (cS d) := fun G _ => h.imp fun σ H Q q => by
  obtain ⟨O, φ, ρ, r, ρ', h1, h2, h3⟩ := q
  cases h2
  subst ht
  exact h3 v H O φ h1 .refl (hr _ _ _)
theorem x_int {i : Int} {j : Nat} : XE X (.Constant (.int i) j pos) (cS (.int i)) := x_const pe_int rfl fun _ _ _ => .int i
theorem x_bl {b : Bool} {j : Nat} : XE X (.Constant (.bool b) j pos) (cS (.bl b)) := x_const pe_bl rfl fun _ _ _ => .bl b
theorem x_non {j : Nat} : XE X (.Constant .none j pos) (cS .non) := x_const pe_non rfl fun _ _ _ => .non
theorem x_str {x : Str} {j : Nat} : XE X (.Constant (.str x) j pos) (cS (.str x)) := x_const pe_str rfl fun _ _ _ => .str x
/-- a module's constant -/
theorem x_glob {x : Str} {v : V} {u : Value} {d : D} (hg : Gl X x) (hm : X.mg x = some u) (r : RelV v u) (hr : ∀ O H, Rp X.K O H v d) (hd : (x == ("__debug__" : Str)) = false := by decide) : XE X (.Name x pos) (cS d) := fun G hG => (pe_glob hg hm r hd).imp fun σ H Q q => by
  obtain ⟨O, φ, ρ, r, ρ', h1, h2, h3⟩ := q
  cases h2
  exact h3 v H O φ h1 .refl (show Rp G.K O H v d by rw [hG]; exact hr _ _)

/-! ### operators -/
abbrev r2 (K : PySem.W.Frag) (f : List D → Option R) : R2 := fun x y H Q => rOp K f [x, y] H Q
theorem x_bin {op : Operator} (ho : OpR X (binaryOp op) (r2 X.K f)) (ha : XE X a ma) (hb : XE X b mb) : XE X (.BinOp a op b pos) (opS f [ma, mb]) :=
  fun G hG => (pe_op ho (ha G hG) (hb G hG)).imp fun _ _ _ h => by rw [← hG]; exact tA_two (op_t h)
theorem x_un {op : UnaryOp} (ho : UnR X (unaryOp op) (fun x H Q => rOp X.K f [x] H Q)) (ha : XE X a ma) : XE X (.UnaryOp op a pos) (opS f [ma]) :=
  fun G hG => (pe_un ho (ha G hG)).imp fun _ _ _ h => by rw [← hG]; exact tA_one (op_t h)
theorem x_cmp {op : CmpOp} (ho : OpR X (compareOp op) (r2 X.K f)) (ha : XE X a ma) (hb : XE X b mb) (hm : behindInMarks op b = false) : XE X (.Compare a [op] [b] pos) (opS f [ma, mb]) :=
  fun G hG => (pe_cmpR ho (ha G hG) (hb G hG) hm).imp fun _ _ _ h => by rw [← hG]; exact tA_two (op_t h)
theorem t_cmp {op : CmpOp} (ho : OpR X (compareOp op) (r2 X.K f)) (ha : XE X a ma) (hb : XE X b mb) (hm : behindInMarks op b = false) : XT X (.Compare a [op] [b] pos) (valT (opS f [ma, mb])) :=
  fun G hG => (pt_cmpR ho (ha G hG) (hb G hG) hm).imp fun _ _ _ h => by rw [← hG]; exact tA_two (op_t (valT_t h))
theorem t_val (h : XE X e m) (he : ∀ whole, isTrue e X.env whole = (do let v ← whole; standAt e.pos; holding [v] (truthy v)) := by intro _; rfl) : XT X e (valT m) :=
  fun G hG => (pt_val (h G hG) he).imp fun _ _ _ h => (valT_t h).mono fun _ _ z => z
theorem x_callB {id : String} {x : Str} {p : Pos} (hc : CallR X (.builtin id) (rOp X.K f)) (hg : Gl X x) (hm : X.mg x = none) (hv : bootBuiltins x = some (.builtin id)) (ha : XA X (e :: es) ms) (hn : x ≠ "__name__" := by decide) (hdb : (x == ("__debug__" : Str)) = false := by decide)
    (he : starEach (e :: es) X.env = (false, eval e X.env) :: starEach es X.env := by rfl) (hpl : (backTo pos (starEach es X.env)).any (·.1) = false := by rfl) : XE X (.Call (.Name x p) (e :: es) [] pos) (opS f ms) :=
  fun G hG => (pe_callB hc hg hm hv (ha G hG) hn hdb he hpl).imp fun _ _ _ h => by rw [← hG]; exact op_t h
theorem x_callTy {T : String} {x : Str} {p : Pos} (hc : CallR X (.type T) (rOp X.K f)) (hg : Gl X x) (hm : X.mg x = none) (hv : bootBuiltins x = some (.type T)) (ha : XA X (e :: es) ms) (hn : x ≠ "__name__" := by decide) (hdb : (x == ("__debug__" : Str)) = false := by decide)
    (he : starEach (e :: es) X.env = (false, eval e X.env) :: starEach es X.env := by rfl) (hpl : (backTo pos (starEach es X.env)).any (·.1) = false := by rfl) : XE X (.Call (.Name x p) (e :: es) [] pos) (opS f ms) :=
  fun G hG => (pe_callTy hc hg hm hv (ha G hG) hn hdb he hpl).imp fun _ _ _ h => by rw [← hG]; exact op_t h
theorem x_ix (hr : IxR X (r2 X.K f)) (ha : XE X a ma) (hb : XE X b mb) (hs : PlainIx b := by intro _ _; rfl) : XE X (.Subscript a b pos) (opS f [ma, mb]) :=
  fun G hG => (pe_ix hr (ha G hG) (hb G hG) hs).imp fun _ _ _ h => by rw [← hG]; exact tA_two (op_t h)
end
end Al
end
section
namespace Al
open PySem PySem.Spec PyProof.Rows L2
section
variable {G : Gx} {O O1 : Addr → Prop} {φ φ1 : Nat → List Addr} {σ : L2.St} {ρ ρ1 : Rho} {H H1 : Hp} {Q : VK}
/-! ### slots -/
theorem putS_some {i : Nat} {s : S} {ρ' : Rho} (h : putS i s ρ = some ρ') : ρ' = ρ.set i s ∧ i < ρ.length ∧ (∀ d, ρ[i]? ≠ some (.ow true d)) := by
  unfold putS at h
  split at h
  · cases h
  · cases h
  · cases h
  · rename_i s0 h1 h2 h3
    cases h
    refine ⟨rfl, (List.getElem?_eq_some_iff.mp h3).1, fun d z => h1 d (Option.some.inj (h3.symm.trans z))⟩
/-- data is put into a slot -/
theorem St.put {i : Nat} {d : D} {v : V} {ρ' : Rho} (h : St G O φ σ ρ H) (e : putS i (.fz d) ρ = some ρ') (r : Rp G.K O H v d) :
    St G O φ (σ.set i (some v)) ρ' H ∧ Tr φ ρ O H φ ρ' O H := by
  obtain ⟨rfl, hl, nt⟩ := putS_some e
  have hs : i < σ.length := by rw [h.len]; exact hl
  have sg : ∀ {j : Nat}, i ≠ j → (σ.set i (some v))[j]? = σ[j]? := fun n => List.getElem?_set_ne n
  have nown : ∀ b, Own φ (ρ.set i (.fz d)) b → Own φ ρ b := fun b ⟨j, p, d', ej, hb⟩ => by
    rcases get_set ej with ⟨_, q, _⟩ | ⟨ne, q⟩
    · cases q
    · exact ⟨j, p, d', q, hb⟩
  refine ⟨⟨⟨by rw [List.length_set, List.length_set]; exact h.len, fun j d' ej => ?_, fun j p d' ej => ?_, fun j k p q d1 d2 e1 e2 ne => ?_, h.trk⟩, h.dom, h.base, fun b z => h.own b (nown b z), fun j d' ej => ?_, fun j ej => ?_, fun j p d' ej => ?_⟩, ⟨fun _ _ q _ => q, fun b z => .inl z, fun b z => .inl (nown b z), fun _ z => z, fun _ _ z _ => z⟩⟩
  · rcases get_set ej with ⟨rfl, q, _⟩ | ⟨ne, q⟩
    · cases q; exact ⟨v, List.getElem?_set_self hs, r⟩
    · rw [sg ne]; exact h.fz j d' q
  · rcases get_set ej with ⟨_, q, _⟩ | ⟨ne, q⟩
    · cases q
    · rw [sg ne]; exact h.ow j p d' q
  · rcases get_set e1 with ⟨_, q, _⟩ | ⟨_, q1⟩
    · cases q
    · rcases get_set e2 with ⟨_, q, _⟩ | ⟨_, q2⟩
      · cases q
      · exact h.dis j k p q d1 d2 q1 q2 ne
  · rcases get_set ej with ⟨_, q, _⟩ | ⟨ne, q⟩
    · cases q
    · rw [sg ne]; exact h.io j d' q
  · rcases get_set ej with ⟨_, q, _⟩ | ⟨ne, q⟩
    · cases q
    · rw [sg ne]; exact h.mkd j q
  · rcases get_set ej with ⟨_, q, _⟩ | ⟨ne, q⟩
    · cases q
    · exact h.new j p d' q
/-- a new object is put into a slot: it is the slot's own from then on -/
theorem St.putO {i : Nat} {d : D} {a : Addr} {fp : List Addr} {ρ' : Rho} (h : St G O φ σ ρ H) (e : putS i (.ow false d) ρ = some ρ') (r : RpO G.K O H a d fp) (hf : ∀ b ∈ fp, O b ∧ ¬ Own φ ρ b) (hf0 : ∀ b ∈ fp, G.H0 b = none) :
    ∃ φ', St G O φ' (σ.set i (some (.ref a))) ρ' H ∧ ∀ {H1 : Hp} {φ1 : Nat → List Addr} {ρ1 : Rho} {O1 : Addr → Prop}, Tr φ1 ρ1 O1 H1 φ ρ O H → (∀ b ∈ fp, Own φ1 ρ1 b ∨ H1 b = none) → Tr φ1 ρ1 O1 H1 φ' ρ' O H := by
  obtain ⟨rfl, hl, nt⟩ := putS_some e
  have hs : i < σ.length := by rw [h.len]; exact hl
  have sg : ∀ {j : Nat}, i ≠ j → (σ.set i (some (.ref a)))[j]? = σ[j]? := fun n => List.getElem?_set_ne n
  let φ' : Nat → List Addr := fun j => if j = i then fp else φ j
  have f1 : φ' i = fp := if_pos rfl
  have f2 : ∀ {j : Nat}, i ≠ j → φ' j = φ j := fun n => if_neg (Ne.symm n)
  have nown : ∀ b, Own φ' (ρ.set i (.ow false d)) b → Own φ ρ b ∨ b ∈ fp := fun b ⟨j, p, d', ej, hb⟩ => by
    rcases get_set ej with ⟨rfl, _, _⟩ | ⟨ne, q⟩
    · rw [f1] at hb; exact .inr hb
    · rw [f2 ne] at hb; exact .inl ⟨j, p, d', q, hb⟩
  refine ⟨φ', ⟨⟨by rw [List.length_set, List.length_set]; exact h.len, fun j d' ej => ?_, fun j p d' ej => ?_, fun j k p q d1 d2 e1 e2 ne => ?_, h.trk⟩, h.dom, h.base, fun b z => (nown b z).elim (h.own b) fun z => .inr (hf0 b z), fun j d' ej => ?_, fun j ej => ?_, fun j p d' ej => ?_⟩,
    fun {H1 φ1 ρ1 O1} t g => ⟨t.keep, t.own, fun b z => (nown b z).elim (t.mon b) (g b), t.dom, t.stay⟩⟩
  · rcases get_set ej with ⟨rfl, q, _⟩ | ⟨ne, q⟩
    · cases q
    · rw [sg ne]; exact h.fz j d' q
  · rcases get_set ej with ⟨rfl, q, _⟩ | ⟨ne, q⟩
    · cases q
      rw [f1]
      exact ⟨a, List.getElem?_set_self hs, r, fun b hb => (hf b hb).1⟩
    · rw [sg ne, f2 ne]; exact h.ow j p d' q
  · rcases get_set e1 with ⟨rfl, q, _⟩ | ⟨n1, q1⟩
    · rcases get_set e2 with ⟨rfl, _, _⟩ | ⟨n2, q2⟩
      · exact absurd rfl ne
      · rw [f1, f2 n2]
        exact fun b hb z => (hf b hb).2 ⟨k, _, _, q2, z⟩
    · rcases get_set e2 with ⟨rfl, _, _⟩ | ⟨n2, q2⟩
      · rw [f1, f2 n1]
        exact fun b hb z => (hf b z).2 ⟨j, _, _, q1, hb⟩
      · rw [f2 n1, f2 n2]
        exact h.dis j k _ _ _ _ q1 q2 ne
  · rcases get_set ej with ⟨_, q, _⟩ | ⟨ne, q⟩
    · cases q
    · rw [sg ne]; exact h.io j d' q
  · rcases get_set ej with ⟨_, q, _⟩ | ⟨ne, q⟩
    · cases q
    · rw [sg ne]; exact h.mkd j q
  · rcases get_set ej with ⟨rfl, q, _⟩ | ⟨ne, q⟩
    · rw [f1]; exact fun b hb => .inr (hf0 b hb)
    · rw [f2 ne]; exact h.new j p d' q
/-- a slot's object is changed -/
theorem St.upd {i : Nat} {p : Bool} {d d' : D} {a : Addr} (h : St G O φ σ ρ H) (e : ρ[i]? = some (.ow p d)) (hk : ∀ b o, H b = some o → b ∉ φ i → H1 b = some o) (hd : ∀ b ∈ φ i, H1 b ≠ none)
    (ea : σ[i]? = some (some (.ref a))) (r : RpO G.K O H1 a d' (φ i)) :
    St G O φ σ (ρ.set i (.ow p d')) H1 ∧ Tr φ ρ O H φ (ρ.set i (.ow p d')) O H1 := by
  have ownI : ∀ b ∈ φ i, Own φ ρ b := fun b hb => ⟨i, p, d, e, hb⟩
  have same : ∀ b, Own φ (ρ.set i (.ow p d')) b ↔ Own φ ρ b := fun b => by
    constructor
    · rintro ⟨j, q, d2, ej, hb⟩
      rcases get_set ej with ⟨rfl, _, _⟩ | ⟨ne, z⟩
      · exact ownI b hb
      · exact ⟨j, q, d2, z, hb⟩
    · rintro ⟨j, q, d2, ej, hb⟩
      by_cases n : i = j
      · subst n
        exact ⟨i, p, d', List.getElem?_set_self (List.getElem?_eq_some_iff.mp e).1, hb⟩
      · exact ⟨j, q, d2, by rw [List.getElem?_set_ne n]; exact ej, hb⟩
  have dom : ∀ b, H b ≠ none → H1 b ≠ none := fun b z => by
    by_cases hb : b ∈ φ i
    · exact hd b hb
    · cases q : H b with
      | none => exact absurd q z
      | some o => rw [hk b o q hb]; exact fun z => nomatch z
  have mv : ∀ b o, H b = some o → ¬ O b → H1 b = some o := fun b o q n => hk b o q fun z => n (h.sub (ownI b z))
  refine ⟨⟨⟨by rw [List.length_set]; exact h.len, fun j d2 ej => ?_, fun j q d2 ej => ?_, fun j k q1 q2 d1 d2 e1 e2 ne => ?_, fun b z => dom b (h.trk b z)⟩, fun b z => dom b (h.dom b z), fun b o q n => ?_, fun b z => h.own b ((same b).mp z), fun j d2 ej => ?_, fun j ej => ?_, fun j q d2 ej => ?_⟩,
    ⟨fun b o q n => hk b o q fun z => n (ownI b z), fun b z => .inl z, fun b z => .inl ((same b).mp z), dom, fun _ _ z _ => z⟩⟩
  · rcases get_set ej with ⟨rfl, q, _⟩ | ⟨ne, q⟩
    · cases q
    · obtain ⟨v, ev, rv⟩ := h.fz j d2 q
      exact ⟨v, ev, rv.tr mv fun _ z => .inl z⟩
  · rcases get_set ej with ⟨rfl, z, _⟩ | ⟨ne, z⟩
    · cases z
      obtain ⟨_, _, _, qo⟩ := h.ow i p d e
      exact ⟨a, ea, r, qo⟩
    · obtain ⟨a', ev, rv, qo⟩ := h.ow j q d2 z
      exact ⟨a', ev, rv.tr mv (fun _ z => .inl z) fun b hb o w => hk b o w fun y => h.dis i j p q d d2 e z ne b y hb, qo⟩
  · have g : ∀ {j : Nat} {q : Bool} {d2 : D}, (ρ.set i (.ow p d'))[j]? = some (.ow q d2) → ∃ q' d3, ρ[j]? = some (.ow q' d3) := fun {j q d2} ej => by
      rcases get_set ej with ⟨rfl, _, _⟩ | ⟨ne, z⟩
      · exact ⟨p, d, e⟩
      · exact ⟨q, d2, z⟩
    obtain ⟨_, _, g1⟩ := g e1
    obtain ⟨_, _, g2⟩ := g e2
    exact h.dis j k _ _ _ _ g1 g2 ne
  · by_cases hb : b ∈ φ i
    · rcases h.own b (ownI b hb) with z | z
      · exact absurd z n
      · rw [z] at q; cases q
    · exact hk b o (h.base b o q n) hb
  · rcases get_set ej with ⟨rfl, z, _⟩ | ⟨ne, z⟩
    · cases z; exact h.io i d e
    · exact h.io j d2 z
  · rcases get_set ej with ⟨rfl, z, _⟩ | ⟨ne, z⟩
    · cases z
    · exact h.mkd j z
  · rcases get_set ej with ⟨rfl, z, _⟩ | ⟨ne, z⟩
    · cases z; exact h.new i p d e
    · exact h.new j q d2 z
theorem putAll_ok : ∀ {is : List Nat} {ds : List D} {vs : List V} {ρ ρ' : Rho} {σ : L2.St}, St G O φ σ ρ H → putAll is ds ρ = some ρ' → Rps G.K O H vs ds →
    ∃ σ', St G O φ σ' ρ' H ∧ Tr φ ρ O H φ ρ' O H ∧ σ' = (is.zip vs).foldl (fun s p => s.set p.1 (some p.2)) σ ∧ is.length = vs.length
  | [], [], _, ρ, ρ', σ, h, e, .nil => by cases e; exact ⟨σ, h, .refl, rfl, rfl⟩
  | i :: is, d :: ds, _, ρ, ρ', σ, h, e, .cons r rs => by
    simp only [putAll, Option.bind_eq_some_iff] at e
    obtain ⟨ρ1, e1, e2⟩ := e
    obtain ⟨h1, t1⟩ := h.put e1 r
    obtain ⟨σ', h2, t2, e3, e4⟩ := putAll_ok h1 e2 rs
    exact ⟨σ', h2, t1.trans t2, e3, by rw [List.length_cons, List.length_cons, e4]⟩
  | [], _ :: _, _, _, _, _, _, e, _ => by simp [putAll] at e
  | _ :: _, [], _, _, _, _, _, e, _ => by simp [putAll] at e
end

section
variable {X : Cx} {G : Gx} {e a b c : Expr} {es : List Expr} {st : Stmt} {sts : List Stmt} {m ma mb mc : M} {ms : List M} {t t1 t2 : MT} {s1 s2 : MS} {pos : Pos}

/-! ### and, or, not, if as expressions and as tests -/
theorem x_one {op : BoolOp} (h : XE X a m) : XE X (.BoolOp op [a] pos) m := fun G hG => pe_one (h G hG)
theorem x_and {rest : List Expr} (ha : XE X a ma) (hb : XE X (.BoolOp .And (b :: rest) pos) mb) : XE X (.BoolOp .And (a :: b :: rest) pos) (andS ma mb) := fun G hG => (pe_and (ha G hG) (hb G hG)).imp fun σ H Q h => by
  obtain ⟨O, φ, ρ, r, ρ', h1, h2, h3⟩ := h
  simp only [andS, Option.bind_eq_some_iff, Prod.exists] at h2
  obtain ⟨r1, ρ1, e1, e2⟩ := h2
  refine ⟨O, φ, ρ, r1, ρ1, h1, e1, fun v H1 O1 φ1 s1 t1 q1 => ?_⟩
  split at e2
  · have q : Rp G.K O1 H1 v (.bl true) := q1
    cases q
    refine ⟨true, rfl, ?_⟩
    rw [if_pos rfl]
    exact ⟨O1, φ1, ρ1, r, ρ', s1, e2, fun v' H2 O2 φ2 s2 t2 q2 => h3 v' H2 O2 φ2 s2 (t1.trans t2) (q2.back t1.dom)⟩
  · have q : Rp G.K O1 H1 v (.bl false) := q1
    cases q
    cases e2
    refine ⟨false, rfl, ?_⟩
    rw [if_neg Bool.false_ne_true]
    exact h3 _ H1 O1 φ1 s1 t1 (Rp.bl false)
  · cases e2
theorem x_or {rest : List Expr} (ha : XE X a ma) (hb : XE X (.BoolOp .Or (b :: rest) pos) mb) : XE X (.BoolOp .Or (a :: b :: rest) pos) (orS ma mb) := fun G hG => (pe_or (ha G hG) (hb G hG)).imp fun σ H Q h => by
  obtain ⟨O, φ, ρ, r, ρ', h1, h2, h3⟩ := h
  simp only [orS, Option.bind_eq_some_iff, Prod.exists] at h2
  obtain ⟨r1, ρ1, e1, e2⟩ := h2
  refine ⟨O, φ, ρ, r1, ρ1, h1, e1, fun v H1 O1 φ1 s1 t1 q1 => ?_⟩
  split at e2
  · have q : Rp G.K O1 H1 v (.bl false) := q1
    cases q
    refine ⟨false, rfl, ?_⟩
    rw [if_neg Bool.false_ne_true]
    exact ⟨O1, φ1, ρ1, r, ρ', s1, e2, fun v' H2 O2 φ2 s2 t2 q2 => h3 v' H2 O2 φ2 s2 (t1.trans t2) (q2.back t1.dom)⟩
  · have q : Rp G.K O1 H1 v (.bl true) := q1
    cases q
    cases e2
    refine ⟨true, rfl, ?_⟩
    rw [if_pos rfl]
    exact h3 _ H1 O1 φ1 s1 t1 (Rp.bl true)
  · cases e2
theorem x_not (ha : XE X a ma) : XE X (.UnaryOp .Not a pos) (notS ma) := fun G hG => (pe_not (ha G hG)).imp fun σ H Q h => by
  obtain ⟨O, φ, ρ, r, ρ', h1, h2, h3⟩ := h
  simp only [notS, Option.bind_eq_some_iff, Prod.exists] at h2
  obtain ⟨r1, ρ1, e1, e2⟩ := h2
  refine ⟨O, φ, ρ, r1, ρ1, h1, e1, fun v H1 O1 φ1 s1 t1 q1 => ?_⟩
  split at e2
  · rename_i b
    have q : Rp G.K O1 H1 v (.bl b) := q1
    cases q
    cases e2
    exact ⟨b, rfl, h3 _ H1 O1 φ1 s1 t1 (Rp.bl _)⟩
  · cases e2
theorem x_ifx (hc : XT X c t) (ha : XE X a ma) (hb : XE X b mb) : XE X (.IfExp c a b pos) (ifxS t ma mb) := fun G hG => (pe_ifExp (hc G hG) (ha G hG) (hb G hG)).imp fun σ H Q h => by
  obtain ⟨O, φ, ρ, r, ρ', h1, h2, h3⟩ := h
  simp only [ifxS, Option.bind_eq_some_iff, Prod.exists] at h2
  obtain ⟨k, ρ1, e1, e2⟩ := h2
  refine ⟨O, φ, ρ, k, ρ1, h1, e1, fun H1 O1 φ1 s1 t1 => ?_⟩
  cases k with
  | true =>
    rw [if_pos rfl] at e2 ⊢
    exact ⟨O1, φ1, ρ1, r, ρ', s1, e2, fun v' H2 O2 φ2 s2 t2 q2 => h3 v' H2 O2 φ2 s2 (t1.trans t2) (q2.back t1.dom)⟩
  | false =>
    rw [if_neg Bool.false_ne_true] at e2 ⊢
    exact ⟨O1, φ1, ρ1, r, ρ', s1, e2, fun v' H2 O2 φ2 s2 t2 q2 => h3 v' H2 O2 φ2 s2 (t1.trans t2) (q2.back t1.dom)⟩
theorem w_and1 (h : XT X a t) : XW X (.BoolOp .And [a] pos) t := fun G hG => pw_and1 (h G hG)
theorem w_or1 (h : XT X a t) : XW X (.BoolOp .Or [a] pos) t := fun G hG => pw_or1 (h G hG)
theorem w_and {rest : List Expr} (ha : XT X a t1) (hb : XW X (.BoolOp .And (b :: rest) pos) t2) : XW X (.BoolOp .And (a :: b :: rest) pos) (andT t1 t2) := fun G hG => (pw_and (ha G hG) (hb G hG)).imp fun σ H Q h => by
  obtain ⟨O, φ, ρ, k, ρ', h1, h2, h3⟩ := h
  simp only [andT, Option.bind_eq_some_iff, Prod.exists] at h2
  obtain ⟨k1, ρ1, e1, e2⟩ := h2
  refine ⟨O, φ, ρ, k1, ρ1, h1, e1, fun H1 O1 φ1 s1 t1 => ?_⟩
  cases k1 with
  | true =>
    rw [if_pos rfl] at e2 ⊢
    exact ⟨O1, φ1, ρ1, k, ρ', s1, e2, fun H2 O2 φ2 s2 t2 => h3 H2 O2 φ2 s2 (t1.trans t2)⟩
  | false =>
    rw [if_neg Bool.false_ne_true] at e2 ⊢
    cases e2
    exact h3 H1 O1 φ1 s1 t1
theorem w_or {rest : List Expr} (ha : XT X a t1) (hb : XW X (.BoolOp .Or (b :: rest) pos) t2) : XW X (.BoolOp .Or (a :: b :: rest) pos) (orT t1 t2) := fun G hG => (pw_or (ha G hG) (hb G hG)).imp fun σ H Q h => by
  obtain ⟨O, φ, ρ, k, ρ', h1, h2, h3⟩ := h
  simp only [orT, Option.bind_eq_some_iff, Prod.exists] at h2
  obtain ⟨k1, ρ1, e1, e2⟩ := h2
  refine ⟨O, φ, ρ, k1, ρ1, h1, e1, fun H1 O1 φ1 s1 t1 => ?_⟩
  cases k1 with
  | false =>
    rw [if_neg Bool.false_ne_true] at e2 ⊢
    exact ⟨O1, φ1, ρ1, k, ρ', s1, e2, fun H2 O2 φ2 s2 t2 => h3 H2 O2 φ2 s2 (t1.trans t2)⟩
  | true =>
    rw [if_pos rfl] at e2 ⊢
    cases e2
    exact h3 H1 O1 φ1 s1 t1
theorem t_bool {e : Expr} (h : XW X e t) : XT X e t := fun G hG => (h G hG).pt
theorem t_not (ha : XT X a t) : XT X (.UnaryOp .Not a pos) (notT t) := fun G hG => (pt_not (ha G hG)).imp fun σ H Q h => by
  obtain ⟨O, φ, ρ, k, ρ', h1, h2, h3⟩ := h
  simp only [notT, Option.bind_eq_some_iff, Prod.exists, Option.some.injEq, Prod.mk.injEq] at h2
  obtain ⟨k1, ρ1, e1, rfl, rfl⟩ := h2
  exact ⟨O, φ, ρ, k1, ρ1, h1, e1, fun H1 O1 φ1 s1 t1 => h3 H1 O1 φ1 s1 t1⟩

/-! ### statements -/
theorem xs_nil : XSs X [] nilS := fun G _ => pss_nil.imp fun D σ H h => by
  obtain ⟨O, φ, ρ, fl, ρ', h1, h2, h3⟩ := h
  cases h2
  exact h3 σ H O φ h1 .refl
theorem seq_t {D : Ends} {σ : L2.St} {H : Hp} (h : tS G (seqS s1 s2) D σ H) : tS G s1 { D with nx := tS G s2 D } σ H := by
  obtain ⟨O, φ, ρ, fl, ρ', h1, h2, h3⟩ := h
  simp only [seqS, Option.bind_eq_some_iff, Prod.exists] at h2
  obtain ⟨f1, ρ1, e1, e2⟩ := h2
  refine ⟨O, φ, ρ, f1, ρ1, h1, e1, ?_⟩
  cases f1 with
  | nx =>
    intro σ1 H1 O1 φ1 s1 t1
    refine ⟨O1, φ1, ρ1, fl, ρ', s1, e2, ?_⟩
    cases fl with
    | nx => exact fun σ2 H2 O2 φ2 s2 t2 => h3 σ2 H2 O2 φ2 s2 (t1.trans t2)
    | bk => exact fun σ2 H2 O2 φ2 s2 t2 => h3 σ2 H2 O2 φ2 s2 (t1.trans t2)
    | ct => exact fun σ2 H2 O2 φ2 s2 t2 => h3 σ2 H2 O2 φ2 s2 (t1.trans t2)
    | rt r => exact fun σ2 v H2 O2 φ2 s2 t2 q2 => h3 σ2 v H2 O2 φ2 s2 (t1.trans t2) (q2.back t1.dom)
  | bk => cases e2; exact h3
  | ct => cases e2; exact h3
  | rt r => cases e2; exact h3
theorem xs_one (h : XS X st s1) : XSs X [st] s1 := fun G hG => pss_one (h G hG)
theorem xs_cons (h : XS X st s1) (hr : XSs X sts s2) : XSs X (st :: sts) (seqS s1 s2) := fun G hG => (pss_cons (h G hG) (hr G hG)).imp fun D σ H q => seq_t q
theorem s_pass : XS X (.Pass pos) nilS := fun G _ => ps_pass.imp fun D σ H h => by
  obtain ⟨O, φ, ρ, fl, ρ', h1, h2, h3⟩ := h
  cases h2
  exact h3 σ H O φ h1 .refl
theorem s_break : XS X (.Break pos) bkS := fun G _ => ps_break.imp fun D σ H h => by
  obtain ⟨O, φ, ρ, fl, ρ', h1, h2, h3⟩ := h
  cases h2
  exact h3 σ H O φ h1 .refl
theorem s_continue : XS X (.Continue pos) ctS := fun G _ => ps_continue.imp fun D σ H h => by
  obtain ⟨O, φ, ρ, fl, ρ', h1, h2, h3⟩ := h
  cases h2
  exact h3 σ H O φ h1 .refl
theorem s_expr (he : XE X e m) (hs : swapsWith e none pos.line X.env = pure false := by rfl) : XS X (.Expr e pos) (exprS m) := fun G hG => (ps_expr (he G hG) hs).imp fun D σ H h => by
  obtain ⟨O, φ, ρ, fl, ρ', h1, h2, h3⟩ := h
  simp only [exprS, Option.bind_eq_some_iff, Prod.exists, Option.some.injEq, Prod.mk.injEq] at h2
  obtain ⟨r, ρ1, e1, rfl, rfl⟩ := h2
  exact ⟨O, φ, ρ, r, ρ1, h1, e1, fun v H1 O1 φ1 s1 t1 _ => h3 σ H1 O1 φ1 s1 t1⟩
theorem s_ret (he : XE X e m) : XS X (.Return (some e) pos) (retS m) := fun G hG => (ps_ret (he G hG)).imp fun D σ H h => by
  obtain ⟨O, φ, ρ, fl, ρ', h1, h2, h3⟩ := h
  simp only [retS, Option.bind_eq_some_iff, Prod.exists, Option.some.injEq, Prod.mk.injEq] at h2
  obtain ⟨r, ρ1, e1, rfl, rfl⟩ := h2
  exact ⟨O, φ, ρ, r, ρ1, h1, e1, fun v H1 O1 φ1 s1 t1 q1 => h3 σ v H1 O1 φ1 s1 t1 q1⟩
theorem s_if {x y : List Stmt} (hc : XT X c t) (ha : XSs X x s1) (hb : XSs X y s2) : XS X (.If c x y pos) (ifS t s1 s2) := fun G hG => (ps_if (hc G hG) (ha G hG) (hb G hG)).imp fun D σ H h => by
  obtain ⟨O, φ, ρ, fl, ρ', h1, h2, h3⟩ := h
  simp only [ifS, Option.bind_eq_some_iff, Prod.exists] at h2
  obtain ⟨k, ρ1, e1, e2⟩ := h2
  refine ⟨O, φ, ρ, k, ρ1, h1, e1, fun H1 O1 φ1 q1 t1 => ?_⟩
  cases k with
  | true =>
    rw [if_pos rfl] at e2 ⊢
    refine ⟨O1, φ1, ρ1, fl, ρ', q1, e2, ?_⟩
    cases fl with
    | nx => exact fun σ2 H2 O2 φ2 s2 t2 => h3 σ2 H2 O2 φ2 s2 (t1.trans t2)
    | bk => exact fun σ2 H2 O2 φ2 s2 t2 => h3 σ2 H2 O2 φ2 s2 (t1.trans t2)
    | ct => exact fun σ2 H2 O2 φ2 s2 t2 => h3 σ2 H2 O2 φ2 s2 (t1.trans t2)
    | rt r => exact fun σ2 v H2 O2 φ2 s2 t2 q2 => h3 σ2 v H2 O2 φ2 s2 (t1.trans t2) (q2.back t1.dom)
  | false =>
    rw [if_neg Bool.false_ne_true] at e2 ⊢
    refine ⟨O1, φ1, ρ1, fl, ρ', q1, e2, ?_⟩
    cases fl with
    | nx => exact fun σ2 H2 O2 φ2 s2 t2 => h3 σ2 H2 O2 φ2 s2 (t1.trans t2)
    | bk => exact fun σ2 H2 O2 φ2 s2 t2 => h3 σ2 H2 O2 φ2 s2 (t1.trans t2)
    | ct => exact fun σ2 H2 O2 φ2 s2 t2 => h3 σ2 H2 O2 φ2 s2 (t1.trans t2)
    | rt r => exact fun σ2 v H2 O2 φ2 s2 t2 q2 => h3 σ2 v H2 O2 φ2 s2 (t1.trans t2) (q2.back t1.dom)
theorem asg_t {i : Nat} {D : Ends} {σ : L2.St} {H : Hp} (h : tS G (asgS i m) D σ H) : tM G m σ H fun x H1 => D.nx (σ.set i (some x)) H1 := by
  obtain ⟨O, φ, ρ, fl, ρ', h1, h2, h3⟩ := h
  simp only [asgS, Option.bind_eq_some_iff, Prod.exists] at h2
  obtain ⟨r, ρ1, e1, e2⟩ := h2
  refine ⟨O, φ, ρ, r, ρ1, h1, e1, fun v H1 O1 φ1 q1 t1 r1 => ?_⟩
  cases r with
  | fr d =>
    simp only [Option.bind_eq_some_iff, Option.some.injEq, Prod.mk.injEq] at e2
    obtain ⟨ρ2, e3, rfl, rfl⟩ := e2
    obtain ⟨a, fp, rfl, ra, hf⟩ := r1
    obtain ⟨φ2, q2, t2⟩ := q1.putO e3 ra (fun b hb => ⟨(hf b hb).1, (hf b hb).2.2⟩) fun b hb => h1.none0 (hf b hb).2.1
    exact h3 _ H1 O1 φ2 q2 (t2 t1 fun b hb => .inr (hf b hb).2.1)
  | val d =>
    simp only [Option.bind_eq_some_iff, Option.some.injEq, Prod.mk.injEq, Prod.exists] at e2
    obtain ⟨d, ρ2, e3, ρ3, e4, rfl, rfl⟩ := e2
    obtain ⟨O2, q2, t2, r2⟩ := force_ok q1 t1 r1 e3
    obtain ⟨q3, t3⟩ := q2.put e4 r2
    exact h3 _ H1 O2 φ1 q3 (t2.trans t3)
  | sl j =>
    simp only [Option.bind_eq_some_iff, Option.some.injEq, Prod.mk.injEq, Prod.exists] at e2
    obtain ⟨d, ρ2, e3, ρ3, e4, rfl, rfl⟩ := e2
    obtain ⟨O2, q2, t2, r2⟩ := force_ok q1 t1 r1 e3
    obtain ⟨q3, t3⟩ := q2.put e4 r2
    exact h3 _ H1 O2 φ1 q3 (t2.trans t3)
end
end Al
end
section
namespace Al
open PySem PySem.Spec PyProof.Rows L2

/-! ### targets -/
/-- what a source yields: data, or a tuple that is at once taken apart -/
def Yv (w : Bool) (K : PySem.W.Frag) (O : Addr → Prop) (H : Hp) (x : V) (d : D) : Prop :=
  Rp K O H x d ∨ (w = true ∧ ∃ a vs ds, x = .ref a ∧ d = .tup ds ∧ SqT K H a vs ∧ Rps K O H vs ds)
def tG (G : Gx) (ix : List Nat) (w : Bool) (tgt : Tgt) : TG := fun v σ H Q => ∃ O φ ρ d ρ', St G O φ σ ρ H ∧ tgt d ρ = some ρ' ∧ Yv w G.K O H v d ∧
  ∀ σ', St G O φ σ' ρ' H → Tr φ ρ O H φ ρ' O H → (∀ vs : List Nat, (∀ i ∈ ix, i ∈ vs) → wipe σ' vs = wipe σ vs) → Q σ' H
def XG (X : Cx) (tg : Expr) (ix : List Nat) (w : Bool) (tgt : Tgt) : Prop := ∀ G : Gx, G.K = X.K → PG X tg (tG G ix w tgt)
theorem wipe_get (σ : L2.St) : ∀ (vs : List Nat) (j : Nat), (wipe σ vs)[j]? = if j ∈ vs ∧ j < σ.length then some none else σ[j]?
  | [], j => by simp [wipe]
  | v :: vs, j => by
    unfold wipe
    by_cases h : v = j
    · subst h
      by_cases hl : v < σ.length
      · rw [List.getElem?_set_self (by rw [wipe_length]; exact hl), if_pos ⟨List.mem_cons_self, hl⟩]
      · rw [List.getElem?_eq_none (by rw [List.length_set, wipe_length]; omega), if_neg (fun z => hl z.2), List.getElem?_eq_none (by omega)]
    · rw [List.getElem?_set_ne h, wipe_get σ vs j]
      simp only [List.mem_cons, Ne.symm h, false_or]
theorem wipe_set {σ : L2.St} {i : Nat} {x : Option V} {vs : List Nat} (h : i ∈ vs) : wipe (σ.set i x) vs = wipe σ vs := by
  apply List.ext_getElem?
  intro j
  rw [wipe_get, wipe_get, List.length_set]
  by_cases c : j ∈ vs ∧ j < σ.length
  · rw [if_pos c, if_pos c]
  · rw [if_neg c, if_neg c]
    by_cases e : i = j
    · subst e
      have : ¬ i < σ.length := fun z => c ⟨h, z⟩
      rw [List.getElem?_eq_none (by rw [List.length_set]; omega), List.getElem?_eq_none (by omega)]
    · rw [List.getElem?_set_ne e]
theorem wipe_put {vs : List Nat} : ∀ (l : List (Nat × V)) (σ : L2.St), (∀ p ∈ l, p.1 ∈ vs) → wipe (l.foldl (fun s p => s.set p.1 (some p.2)) σ) vs = wipe σ vs
  | [], σ, _ => rfl
  | p :: l, σ, h => by
    rw [List.foldl_cons, wipe_put l _ fun q hq => h q (List.mem_cons_of_mem _ hq)]
    exact wipe_set (h p List.mem_cons_self)
theorem PG.imp {X : Cx} {tg : Expr} {t t' : TG} (h : PG X tg t) (k : ∀ v σ H Q, t' v σ H Q → t v σ H Q) : PG X tg t' := ⟨fun pins s σ H v u Q I r q => h.run pins s σ H v u Q I r (k _ _ _ _ q)⟩
section
variable {X : Cx} {pos : Pos}
theorem g_name {i : Nat} {x : Str} (hN : X.N.Nodup) (hi : X.N[i]? = some x) (hx : Loc X.env.scope x) (hf : X.fn x = true ∨ X.env.scope.names.lookup x = some .local := by first | exact .inl rfl | exact .inr rfl | assumption) :
    XG X (.Name x pos) [i] false (tgt1 i) := fun G hG => PG.imp (pg_name hN hi hx hf) fun v σ H Q h => by
  obtain ⟨O, φ, ρ, d, ρ', h1, h2, h3, h4⟩ := h
  rcases h3 with h3 | ⟨z, _⟩
  · obtain ⟨q, t⟩ := h1.put h2 h3
    exact h4 _ q t fun vs hv => wipe_set (hv i (by simp))
  · cases z
/-- several names -/
inductive XGs (X : Cx) : List Expr → List Nat → Prop
  | nil : XGs X [] []
  | cons {i : Nat} {x : Str} {pos : Pos} {es : List Expr} {ix : List Nat} (h : PG X (.Name x pos) (gName i)) (hs : (assignEach (.Name x pos :: es) X.env).map (·.2) = assign (.Name x pos) X.env :: (assignEach es X.env).map (·.2)) (r : XGs X es ix) : XGs X (.Name x pos :: es) (i :: ix)
def gNames (is : List Nat) : TGs := fun vs σ H Q => vs.length = is.length ∧ Q ((is.zip vs).foldl (fun (s : L2.St) (p : Nat × V) => s.set p.1 (some p.2)) σ) H
theorem XGs.pgs : ∀ {es : List Expr} {ix : List Nat}, XGs X es ix → PGs X es (gNames ix)
  | _, _, .nil => ⟨fun pins s σ H vs us Q I r h => by
      obtain ⟨e, h⟩ := h
      obtain rfl : vs = [] := List.eq_nil_of_length_eq_zero e
      cases r
      exact assignInOrder_nil ⟨σ, H, I, h⟩⟩
  | _, _, .cons (ix := ix) h hs r => ⟨fun pins s σ H vs us Q I rr q => by
      obtain ⟨e, q⟩ := q
      cases rr with
      | nil => simp at e
      | cons rv rt =>
        rename_i v0 vr u0 ur
        rw [hs]
        refine assignInOrder_cons (thn (h.run pins s σ H _ _ (fun σ' H' => Q ((ix.zip u0).foldl (fun (s : L2.St) (p : Nat × V) => s.set p.1 (some p.2)) σ') H') I rv q) fun _ s1 ⟨σ1, H1, I1, q1⟩ => ?_)
        exact (XGs.pgs r).run pins s1 σ1 H1 _ _ Q I1 rt ⟨by simpa using e, q1⟩⟩
theorem g_tup {es : List Expr} {k n : Nat} {ix : List Nat} (hc : X.calm = true) (h : XGs X es ix) (hl : ix.length = n)
    (hn : (assignEach es X.env).length = n := by rfl) (hst : (assignEach es X.env).findIdx? (·.1) = none := by rfl) : XG X (.Tuple es k pos) ix true (tgtN ix) := fun G hG => PG.imp (pg_tup hc h.pgs hn hst) fun v σ H Q h => by
  obtain ⟨O, φ, ρ, d, ρ', h1, h2, h3, h4⟩ := h
  unfold tgtN at h2
  split at h2
  · rename_i ds
    have key : ∃ a vs, v = .ref a ∧ SqT X.K H a vs ∧ Rps G.K O H vs ds := by
      rcases h3 with h3 | ⟨_, a, vs, ds', rfl, e, sq, r⟩
      · obtain ⟨a, vs, rfl, sq, r⟩ := h3.tupQ
        exact ⟨a, vs, rfl, by rw [← hG]; exact sq, r⟩
      · cases e
        exact ⟨a, vs, rfl, by rw [← hG]; exact sq, r⟩
    obtain ⟨a, vs, rfl, sq, r⟩ := key
    obtain ⟨σ', q, t, e3, e4⟩ := putAll_ok h1 h2 r
    refine ⟨a, vs, rfl, sq, by rw [← e4, hl], e4.symm, ?_⟩
    rw [← e3]
    refine h4 _ q t fun ws hw => ?_
    rw [e3]
    exact wipe_put _ _ fun p hp => hw p.1 (List.of_mem_zip hp).1
  · cases h2
end
end Al
end
section
namespace Al
open PySem PySem.Spec PyProof.Rows L2

/-! ### what is walked -/
structure Feed (w : Bool) (K : PySem.W.Frag) (Z : List Addr) (P : (Addr → Prop) → Hp → Prop) (J : It) (xs : List D) : Prop where
  stop : ∀ O H, P O H → J.stop xs.length H
  go : ∀ O H i, P O H → i < xs.length → J.go i H
  yld : ∀ O H i x H', i < xs.length → P O H → J.yld i H x H' → Same H H' ∧ ∃ d, xs[i]? = some d ∧ Yv w K O H' x d
  mono : ∀ O H O' H', P O H → (∀ b o, H b = some o → ¬ O b → H' b = some o) → (∀ b, O' b → O b ∨ H b = none) → (∀ b ∈ Z, ∀ o, H b = some o → H' b = some o) → P O' H'
def zOk (o : Option Nat) (ρ : Rho) (φ : Nat → List Addr) (Z : List Addr) : Prop := match o with
  | none => Z = []
  | some i => (∃ p d, ρ[i]? = some (.ow p d)) ∧ ∀ b ∈ Z, b ∈ φ i
def tI (G : Gx) (w : Bool) (src : Src) : TI := fun σ H R => ∃ O φ ρ xs o ρ', St G O φ σ ρ H ∧ src ρ = some (xs, o, ρ') ∧
  ∀ J H' O' φ' Z P, St G O' φ' σ ρ' H' → Tr φ ρ O H φ' ρ' O' H' → P O' H' → Feed w G.K Z P J xs → zOk o ρ' φ' Z → R J H'
def XI (X : Cx) (tg iter : Expr) (w : Bool) (src : Src) : Prop := ∀ G : Gx, G.K = X.K → PI X tg iter (tI G w src)
theorem PI.imp {X : Cx} {tg iter : Expr} {t t' : TI} (h : PI X tg iter t) (k : ∀ σ H R, t' σ H R → t σ H R) : PI X tg iter t' := ⟨fun pins s σ H R I q => h.run pins s σ H R I (k _ _ _ q)⟩

section
variable {G G2 : Gx} {O1 O2 : Addr → Prop} {φ1 φ2 : Nat → List Addr} {σ1 σ2 σ3 : L2.St} {ρ1 ρi ρ2 ρ3 : Rho} {H1 H2 : Hp}
/-- hidden slots come back -/
theorem St.restore (hs : List Nat) (h1 : St G O1 φ1 σ1 ρ1 H1) (h2 : St G2 O2 φ2 σ2 ρ2 H2) (gK : G2.K = G.K) (gH : G2.H0 = G.H0) (gJ : G2.J = G.J) (gF : G2.fp = G.fp) (ga : ∀ j, j ∉ hs → G2.ad j = G.ad j)
    (hi : ∀ b, Own φ1 ρi b → ∃ j p d, j ∉ hs ∧ ρ1[j]? = some (.ow p d) ∧ b ∈ φ1 j) (t : Tr φ1 ρi O1 H1 φ2 ρ2 O2 H2) (hl : σ3.length = ρ3.length)
    (s1 : ∀ j ∈ hs, ρ3[j]? = ρ1[j]? ∧ σ3[j]? = σ1[j]?) (s2 : ∀ j, j ∉ hs → ρ3[j]? = ρ2[j]? ∧ σ3[j]? = σ2[j]?) :
    ∃ φ3, St G O2 φ3 σ3 ρ3 H2 ∧ Tr φ1 ρ1 O1 H1 φ3 ρ3 O2 H2 ∧ ∀ b, Own φ3 ρ3 b → Own φ2 ρ2 b ∨ H1 b ≠ none := by
  have sub : ∀ b, Own φ1 ρi b → Own φ1 ρ1 b := fun b z => let ⟨j, p, d, _, e, hb⟩ := hi b z; ⟨j, p, d, e, hb⟩
  have hid : ∀ j ∈ hs, ∀ p d, ρ1[j]? = some (.ow p d) → ∀ b ∈ φ1 j, ¬ Own φ1 ρi b := fun j hj p d e b hb z => by
    obtain ⟨k, q, d2, hk, e2, hb2⟩ := hi b z
    exact h1.dis j k p q d d2 e e2 (fun y => hk (y ▸ hj)) b hb hb2
  let φ3 : Nat → List Addr := fun j => if j ∈ hs then φ1 j else φ2 j
  have f1 : ∀ {j}, j ∈ hs → φ3 j = φ1 j := fun h => if_pos h
  have f2 : ∀ {j}, j ∉ hs → φ3 j = φ2 j := fun h => if_neg h
  have cls : ∀ b, Own φ3 ρ3 b → (∃ j ∈ hs, ∃ p d, ρ1[j]? = some (.ow p d) ∧ b ∈ φ1 j) ∨ Own φ2 ρ2 b := fun b ⟨j, p, d, e, hb⟩ => by
    by_cases hj : j ∈ hs
    · rw [f1 hj] at hb
      rw [(s1 j hj).1] at e
      exact .inl ⟨j, hj, p, d, e, hb⟩
    · rw [f2 hj] at hb
      rw [(s2 j hj).1] at e
      exact .inr ⟨j, p, d, e, hb⟩
  have mv : ∀ b o, H1 b = some o → ¬ O1 b → H2 b = some o := fun b o e n => t.keep b o e fun z => n (h1.sub (sub b z))
  have cross : ∀ {j k p q d e}, j ∈ hs → k ∉ hs → ρ1[j]? = some (.ow p d) → ρ2[k]? = some (.ow q e) → ∀ b ∈ φ1 j, b ∉ φ2 k := fun {j k p q d e} hj hk e1 e2 b hb z => by
    rcases t.mon b ⟨k, q, e, e2, z⟩ with y | y
    · exact hid j hj p d e1 b hb y
    · exact h1.trk b (h1.sub ⟨j, p, d, e1, hb⟩) y
  refine ⟨φ3, ⟨⟨hl, fun j d e => ?_, fun j p d e => ?_, fun j k p q d1 d2 e1 e2 ne => ?_, h2.trk⟩, fun b z => h2.dom b (by rw [gH]; exact z), fun b o e n => h2.base b o (by rw [gH]; exact e) (by rw [gJ]; exact n), fun b z => ?_, fun j d e => ?_, fun j e => ?_, fun j p d e => ?_⟩,
    ⟨fun b o e n => t.keep b o e fun z => n (sub b z), t.own, fun b z => ?_, t.dom, fun b z o n => t.stay b z o fun y => n (sub b y)⟩,
    fun b z => (cls b z).elim (fun ⟨j, hj, p, d, e, hb⟩ => .inr (h1.trk b (h1.sub ⟨j, p, d, e, hb⟩))) .inl⟩
  · by_cases hj : j ∈ hs
    · obtain ⟨er, es⟩ := s1 j hj
      rw [er] at e
      rw [es]
      obtain ⟨v, ev, r⟩ := h1.fz j d e
      exact ⟨v, ev, r.tr mv t.own⟩
    · obtain ⟨er, es⟩ := s2 j hj
      rw [er] at e
      rw [es]
      have := h2.fz j d e
      rw [gK] at this
      exact this
  · by_cases hj : j ∈ hs
    · obtain ⟨er, es⟩ := s1 j hj
      rw [er] at e
      rw [es, f1 hj]
      obtain ⟨a, ev, r, qo⟩ := h1.ow j p d e
      exact ⟨a, ev, r.tr mv t.own fun b hb o w => t.keep b o w (hid j hj p d e b hb), fun b hb => t.stay b (h1.trk b (qo b hb)) (qo b hb) (hid j hj p d e b hb)⟩
    · obtain ⟨er, es⟩ := s2 j hj
      rw [er] at e
      rw [es, f2 hj]
      have := h2.ow j p d e
      rw [gK] at this
      exact this
  · by_cases hj : j ∈ hs
    · rw [(s1 j hj).1] at e1
      rw [f1 hj]
      by_cases hk : k ∈ hs
      · rw [(s1 k hk).1] at e2
        rw [f1 hk]
        exact h1.dis j k p q d1 d2 e1 e2 ne
      · rw [(s2 k hk).1] at e2
        rw [f2 hk]
        exact cross hj hk e1 e2
    · rw [(s2 j hj).1] at e1
      rw [f2 hj]
      by_cases hk : k ∈ hs
      · rw [(s1 k hk).1] at e2
        rw [f1 hk]
        exact fun b hb z => cross hk hj e2 e1 b z hb
      · rw [(s2 k hk).1] at e2
        rw [f2 hk]
        exact h2.dis j k p q d1 d2 e1 e2 ne
  · rcases cls b z with ⟨j, hj, p, d, e, hb⟩ | z
    · exact h1.own b ⟨j, p, d, e, hb⟩
    · have := h2.own b z
      rw [gJ, gH] at this
      exact this
  · by_cases hj : j ∈ hs
    · rw [(s1 j hj).1] at e
      rw [(s1 j hj).2]
      exact h1.io j d e
    · rw [(s2 j hj).1] at e
      rw [(s2 j hj).2, ← ga j hj]
      exact h2.io j d e
  · by_cases hj : j ∈ hs
    · rw [(s1 j hj).1] at e
      rw [(s1 j hj).2]
      exact h1.mkd j e
    · rw [(s2 j hj).1] at e
      rw [(s2 j hj).2, ← ga j hj]
      exact h2.mkd j e
  · by_cases hj : j ∈ hs
    · rw [(s1 j hj).1] at e
      rw [f1 hj]
      exact h1.new j p d e
    · rw [(s2 j hj).1] at e
      rw [f2 hj]
      have := h2.new j p d e
      rw [gH, gF] at this
      exact this
  · rcases cls b z with ⟨j, hj, p, d, e, hb⟩ | z
    · exact .inl ⟨j, p, d, e, hb⟩
    · exact (t.mon b z).imp (sub b) id
/-- slots are hidden -/
theorem St.hide (hs : List Nat) (h : St G O1 φ1 σ1 ρ1 H1) (gK : G2.K = G.K) (gH : G2.H0 = G.H0) (gJ : G2.J = G.J) (gF : G2.fp = G.fp) (hl : σ2.length = ρ2.length)
    (s1 : ∀ j ∈ hs, ∀ s, ρ2[j]? = some s → s = .un ∨ (s = .mk ∧ ∃ a, G2.ad j = some a ∧ σ2[j]? = some (some (.ref a)))) (s2 : ∀ j, j ∉ hs → ρ2[j]? = ρ1[j]? ∧ σ2[j]? = σ1[j]?) (ga : ∀ j, j ∉ hs → G2.ad j = G.ad j) :
    St G2 O1 φ1 σ2 ρ2 H1 ∧ ∀ b, Own φ1 ρ2 b → ∃ j p d, j ∉ hs ∧ ρ1[j]? = some (.ow p d) ∧ b ∈ φ1 j := by
  have no : ∀ {j p d}, ρ2[j]? = some (.ow p d) → j ∉ hs := fun {j p d} e hj => by
    rcases s1 j hj _ e with z | ⟨z, _⟩ <;> cases z
  have nf : ∀ {j d}, ρ2[j]? = some (.fz d) → j ∉ hs := fun {j d} e hj => by
    rcases s1 j hj _ e with z | ⟨z, _⟩ <;> cases z
  have ow : ∀ b, Own φ1 ρ2 b → ∃ j p d, j ∉ hs ∧ ρ1[j]? = some (.ow p d) ∧ b ∈ φ1 j := fun b ⟨j, p, d, e, hb⟩ => ⟨j, p, d, no e, by rw [← (s2 j (no e)).1]; exact e, hb⟩
  refine ⟨⟨⟨hl, fun j d e => ?_, fun j p d e => ?_, fun j k p q d1 d2 e1 e2 ne => ?_, h.trk⟩, fun b z => h.dom b (by rw [← gH]; exact z), fun b o e n => h.base b o (by rw [← gH]; exact e) (by rw [← gJ]; exact n), fun b z => ?_, fun j d e => ?_, fun j e => ?_, fun j p d e => ?_⟩, ow⟩
  · obtain ⟨er, es⟩ := s2 j (nf e)
    rw [es, gK]
    exact h.fz j d (er ▸ e)
  · obtain ⟨er, es⟩ := s2 j (no e)
    rw [es, gK]
    exact h.ow j p d (er ▸ e)
  · exact h.dis j k p q d1 d2 ((s2 j (no e1)).1 ▸ e1) ((s2 k (no e2)).1 ▸ e2) ne
  · rw [gJ, gH]
    obtain ⟨j, p, d, _, e, hb⟩ := ow b z
    exact h.own b ⟨j, p, d, e, hb⟩
  · obtain ⟨er, es⟩ := s2 j (no e)
    rw [es, ga j (no e)]
    exact h.io j d (er ▸ e)
  · by_cases hj : j ∈ hs
    · rcases s1 j hj _ e with z | ⟨_, z⟩
      · cases z
      · exact z
    · obtain ⟨er, es⟩ := s2 j hj
      rw [es, ga j hj]
      exact h.mkd j (er ▸ e)
  · rw [gH, gF]
    exact h.new j p d ((s2 j (no e)).1 ▸ e)
end
--X theorem Tr.inner {φ φ' : Nat → List Addr} {ρ ρi ρ' : Rho} {O O' : Addr → Prop} {H H' : Hp} (t : Tr φ ρ O H φ' ρ' O' H') (h : ∀ b, Own φ ρi b → Own φ ρ b) (k : Tr φ ρi O H φ' ρ' O' H') : True := trivial

/-! ### for -/
section
variable {X : Cx} {G : Gx} {pos : Pos}
def eG (K : PySem.W.Frag) (ix : List Nat) (w : Bool) (tgt : Tgt) : TG := fun v σ H Q => ∃ G : Gx, G.K = K ∧ tG G ix w tgt v σ H Q
def eS (K : PySem.W.Frag) (m : MS) : TS := fun D σ H => ∃ G : Gx, G.K = K ∧ tS G m D σ H
def eM (K : PySem.W.Frag) (m : M) : TE := fun σ H Q => ∃ G : Gx, G.K = K ∧ tM G m σ H Q
def eT (K : PySem.W.Frag) (m : MT) : TT := fun σ H Q => ∃ G : Gx, G.K = K ∧ tT G m σ H Q
theorem XG.ex {tg : Expr} {ix : List Nat} {w : Bool} {tgt : Tgt} (h : XG X tg ix w tgt) : PG X tg (eG X.K ix w tgt) := ⟨fun pins s σ H v u Q I r ⟨G, hG, q⟩ => (h G hG).run pins s σ H v u Q I r q⟩
theorem XSs.ex {sts : List Stmt} {m : MS} (h : XSs X sts m) : PSs X sts (eS X.K m) := ⟨fun pins s σ H D I ⟨G, hG, q⟩ => (h G hG).run pins s σ H D I q⟩
theorem XE.ex {e : Expr} {m : M} (h : XE X e m) : PE X e (eM X.K m) := ⟨fun pins s σ H Q I ⟨G, hG, q⟩ => (h G hG).run pins s σ H Q I q⟩
theorem XT.ex {e : Expr} {m : MT} (h : XT X e m) : PT X e (eT X.K m) := ⟨fun pins s σ H Q I ⟨G, hG, q⟩ => (h G hG).run pins s σ H Q I q⟩
/-- the loop by itself -/
theorem loop_t {K : PySem.W.Frag} (hK : G.K = K) {w : Bool} {Z : List Addr} {P : (Addr → Prop) → Hp → Prop} {J : It} {xs : List D} {tgt : Tgt} {body : MS} {ix : List Nat} {D : Ends} {φ0 : Nat → List Addr} {ρ0 : Rho} {O0 : Addr → Prop} {H0 : Hp} {σ0 : L2.St} {fl : Fl} {ρE : Rho}
    (F : Feed w G.K Z P J xs) (hZ : ∀ b ∈ Z, ¬ Own φ0 ρ0 b ∧ H0 b ≠ none) (h0 : St G O0 φ0 σ0 ρ0 H0) (p0 : P O0 H0) (e0 : loopS tgt body xs ρ0 = some (fl, ρE))
    (k : match fl with
      | .nx => ∀ σ' H' O' φ', St G O' φ' σ' ρE H' → Tr φ0 ρ0 O0 H0 φ' ρE O' H' → D.nx σ' H'
      | .bk => ∀ σ' H' O' φ', St G O' φ' σ' ρE H' → Tr φ0 ρ0 O0 H0 φ' ρE O' H' → D.bk σ' H'
      | .ct => ∀ σ' H' O' φ', St G O' φ' σ' ρE H' → Tr φ0 ρ0 O0 H0 φ' ρE O' H' → D.ct σ' H'
      | .rt r => ∀ σ' v H' O' φ', St G O' φ' σ' ρE H' → Tr φ0 ρ0 O0 H0 φ' ρE O' H' → RpR G O' φ' σ' ρE H0 H' v r → D.rt v H') :
    ∃ W : Nat → Nat → L2.St → Hp → Prop, (∃ m, W 0 m σ0 H0) ∧ ∀ i m σ H, W i m σ H →
      (J.stop i H ∧ D.nx σ H) ∨ (J.go i H ∧ ∃ N : L2.St → Hp → Prop, (∀ σ' H', N σ' H' → ∃ m', m' < m ∧ W (i + 1) m' σ' H') ∧ ∀ x H', J.yld i H x H' → eG K ix w tgt x σ H' fun σ2 H2 => eS K body { D with nx := N, ct := N, bk := D.nx } σ2 H2) := by
  refine ⟨fun i m σ H => m = xs.length - i ∧ i ≤ xs.length ∧ ∃ O φ ρ, St G O φ σ ρ H ∧ Tr φ0 ρ0 O0 H0 φ ρ O H ∧ P O H ∧ loopS tgt body (xs.drop i) ρ = some (fl, ρE), ⟨_, rfl, Nat.zero_le _, O0, φ0, ρ0, h0, .refl, p0, by simpa using e0⟩, ?_⟩
  rintro i m σ H ⟨rfl, hi, O, φ, ρ, h, t, p, e⟩
  by_cases hlt : i < xs.length
  · refine .inr ⟨F.go O H i p hlt, fun σ' H' => ∃ O φ ρ, St G O φ σ' ρ H' ∧ Tr φ0 ρ0 O0 H0 φ ρ O H' ∧ P O H' ∧ loopS tgt body (xs.drop (i + 1)) ρ = some (fl, ρE), fun σ' H' q => ⟨_, by omega, rfl, hlt, q⟩, fun x H' y => ?_⟩
    obtain ⟨sm, d, ed, yv⟩ := F.yld O H i x H' hlt p y
    have h' := h.grow sm
    have p' : P O H' := F.mono O H O H' p (fun b o z _ => sm b o z) (fun _ z => .inl z) fun b _ o z => sm b o z
    have t' := t.trans (.grow sm (φ := φ) (ρ := ρ) (O := O))
    rw [List.drop_eq_getElem_cons hlt] at e
    have exd : xs[i] = d := by
      have := List.getElem?_eq_getElem hlt
      rw [ed] at this
      exact (Option.some.inj this).symm
    rw [exd] at e
    simp only [loopS, Option.bind_eq_some_iff, Prod.exists] at e
    obtain ⟨ρa, ea, f1, ρb, eb, ec⟩ := e
    refine ⟨G, hK, O, φ, ρ, d, ρa, h', ea, yv, fun σa ha ta _ => ⟨G, hK, O, φ, ρa, f1, ρb, ha, eb, ?_⟩⟩
    have step : ∀ σ' H'' O' φ', St G O' φ' σ' ρb H'' → Tr φ ρa O H' φ' ρb O' H'' → P O' H'' ∧ Tr φ0 ρ0 O0 H0 φ' ρb O' H'' := fun σ' H'' O' φ' hb tb => by
      refine ⟨F.mono O H' O' H'' p' (fun b o z n => tb.keep b o z fun y => n (ha.sub y)) tb.own fun b hb o z => tb.keep b o z fun y => ?_, (t'.trans ta).trans tb⟩
      rcases (t'.trans ta).mon b y with w | w
      · exact (hZ b hb).1 w
      · exact (hZ b hb).2 w
    cases f1 with
    | nx => exact fun σ' H'' O' φ' hb tb => ⟨O', φ', ρb, hb, (step σ' H'' O' φ' hb tb).2, (step σ' H'' O' φ' hb tb).1, ec⟩
    | ct => exact fun σ' H'' O' φ' hb tb => ⟨O', φ', ρb, hb, (step σ' H'' O' φ' hb tb).2, (step σ' H'' O' φ' hb tb).1, ec⟩
    | bk =>
      cases ec
      exact fun σ' H'' O' φ' hb tb => k σ' H'' O' φ' hb (step σ' H'' O' φ' hb tb).2
    | rt r =>
      cases ec
      exact fun σ' v H'' O' φ' hb tb rb => k σ' v H'' O' φ' hb (step σ' H'' O' φ' hb tb).2 (rb.back (t'.trans ta).dom)
  · have ei : i = xs.length := by omega
    subst ei
    rw [List.drop_length] at e
    cases e
    exact .inl ⟨F.stop O H p, k σ H O φ h t⟩
theorem get_len {ρ : Rho} {i : Nat} {s : S} (h : ρ[i]? = some s) : i < ρ.length := (List.getElem?_eq_some_iff.mp h).1
theorem s_for {tg iter : Expr} {sts : List Stmt} {w : Bool} {src : Src} {tgt : Tgt} {body : MS} {ix : List Nat} (hp : PassesOwn (model X.prog X.w) X.A X.env X.xe) (hc : X.calm = true) (hi : XI X tg iter w src) (hg : XG X tg ix w tgt) (hb : XSs X sts body)
    (hs : ∀ x, foldedSetIterable iter X.env x = pure x := by intro _; rfl) : XS X (.For tg iter sts [] pos) (forS src tgt body) := fun G hG => by
  refine (ps_for hp hc (hi G hG) hg.ex hb.ex hs).imp fun D σ H h => ?_
  obtain ⟨O, φ, ρ, fl, ρ', h1, h2, h3⟩ := h
  simp only [forS, Option.bind_eq_some_iff, Prod.exists, Option.some.injEq, Prod.mk.injEq] at h2
  obtain ⟨xs, o, ρ1, e1, fl, ρ2, e2, ρ3, e3, rfl, rfl⟩ := h2
  refine ⟨O, φ, ρ, xs, o, ρ1, h1, e1, fun J H1 O1 φ1 Z P s1 t1 p1 F z => ?_⟩
  cases o with
  | none =>
    have z : Z = [] := z
    subst z
    cases e3
    refine loop_t hG F (fun b hb => absurd hb (by simp)) s1 p1 e2 ?_
    cases fl with
    | nx => exact fun σ' H' O' φ' s2 t2 => h3 σ' H' O' φ' s2 (t1.trans t2)
    | bk => exact fun σ' H' O' φ' s2 t2 => h3 σ' H' O' φ' s2 (t1.trans t2)
    | ct => exact fun σ' H' O' φ' s2 t2 => h3 σ' H' O' φ' s2 (t1.trans t2)
    | rt r => exact fun σ' v H' O' φ' s2 t2 r2 => h3 σ' v H' O' φ' s2 (t1.trans t2) (r2.back t1.dom)
  | some i =>
    obtain ⟨⟨p, d, ei⟩, zi⟩ := z
    obtain ⟨a, ea, ra, _⟩ := s1.ow i p d ei
    have hl := get_len ei
    let G2 : Gx := { G with ad := fun j => if j = i then some a else G.ad j }
    have ga : ∀ j, j ∉ [i] → G2.ad j = G.ad j := fun j hj => if_neg (by simpa using hj)
    have gi : G2.ad i = some a := if_pos rfl
    obtain ⟨s2, w2⟩ := s1.hide (G2 := G2) (ρ2 := maskS (some i) ρ1) (σ2 := σ) [i] rfl rfl rfl rfl (by show σ.length = (ρ1.set i .mk).length; rw [List.length_set]; exact s1.len)
      (fun j hj s e => by
        have : j = i := by simpa using hj
        subst this
        have e : (ρ1.set j .mk)[j]? = some s := e
        rw [List.getElem?_set_self hl] at e
        cases e
        exact .inr ⟨rfl, a, gi, ea⟩)
      (fun j hj => ⟨List.getElem?_set_ne (by simpa using Ne.symm (by simpa using hj)), rfl⟩) ga
    have hid : ∀ b ∈ φ1 i, ¬ Own φ1 (maskS (some i) ρ1) b := fun b hb y => by
      obtain ⟨k, q, d2, hk, e4, hb2⟩ := w2 b y
      exact s1.dis i k p q d d2 ei e4 (fun x => hk (by simp [x])) b hb hb2
    -- the end: the slot comes back
    have fin : ∀ {σ' : L2.St} {H' : Hp} {O' : Addr → Prop} {φ' : Nat → List Addr}, St G2 O' φ' σ' ρ2 H' → Tr φ1 (maskS (some i) ρ1) O1 H1 φ' ρ2 O' H' → ∃ φ3, St G O' φ3 σ' ρ3 H' ∧ Tr φ1 ρ1 O1 H1 φ3 ρ3 O' H' ∧ ∀ b, Own φ3 ρ3 b → Own φ' ρ2 b ∨ H1 b ≠ none := fun {σ' H' O' φ'} s3 t3 => by
      obtain ⟨em, e5⟩ : ρ2[i]? = some .mk ∧ ρ3 = ρ2.set i (.ow p d) := by
        unfold backS at e3
        dsimp only at e3
        rw [ei] at e3
        split at e3
        · rename_i s q1 q2
          cases q1
          cases e3
          exact ⟨q2, rfl⟩
        · cases e3
      subst e5
      have hl2 := get_len em
      obtain ⟨a', ga', ea'⟩ := s3.mkd i em
      rw [gi] at ga'
      cases ga'
      refine s1.restore [i] s3 rfl rfl rfl rfl ga w2 t3 (by rw [List.length_set]; exact s3.len) (fun j hj => ?_) fun j hj => ?_
      · have : j = i := by simpa using hj
        subst this
        rw [List.getElem?_set_self hl2, ei, ea', ea]
        exact ⟨rfl, rfl⟩
      · exact ⟨List.getElem?_set_ne (by simpa using Ne.symm (by simpa using hj)), rfl⟩
    refine loop_t (G := G2) hG F (fun b hb => ⟨hid b (zi b hb), ra.there.2 b (zi b hb)⟩) s2 p1 e2 ?_
    cases fl with
    | nx => exact fun σ' H' O' φ' s3 t3 => let ⟨φ3, s4, t4, _⟩ := fin s3 t3; h3 σ' H' O' φ3 s4 (t1.trans t4)
    | bk => exact fun σ' H' O' φ' s3 t3 => let ⟨φ3, s4, t4, _⟩ := fin s3 t3; h3 σ' H' O' φ3 s4 (t1.trans t4)
    | ct => exact fun σ' H' O' φ' s3 t3 => let ⟨φ3, s4, t4, _⟩ := fin s3 t3; h3 σ' H' O' φ3 s4 (t1.trans t4)
    | rt r =>
      intro σ' v H' O' φ' s3 t3 r3
      obtain ⟨φ3, s4, t4, w4⟩ := fin s3 t3
      refine h3 σ' v H' O' φ3 s4 (t1.trans t4) (RpR.back ?_ t1.dom)
      cases r with
      | val d => exact r3
      | sl j => exact r3
      | fr d =>
        obtain ⟨a', fp, q1, q2, q3⟩ := r3
        exact ⟨a', fp, q1, q2, fun b hb => ⟨(q3 b hb).1, (q3 b hb).2.1, fun y => (w4 b y).elim (q3 b hb).2.2 fun y => y (q3 b hb).2.1⟩⟩
end
end Al
end
section
namespace Al
open PySem PySem.Spec PyProof.Rows L2

section
variable {X : Cx} {G : Gx} {pos : Pos}
/-! ### comprehensions -/
theorem wipeS_get (ρ : Rho) : ∀ (vs : List Nat) (j : Nat), (wipeS vs ρ)[j]? = if j ∈ vs ∧ j < ρ.length then some .un else ρ[j]?
  | [], j => by simp [wipeS]
  | v :: vs, j => by
    have ih := wipeS_get ρ vs
    have hlen : (wipeS vs ρ).length = ρ.length := by
      have : ∀ vs : List Nat, (wipeS vs ρ).length = ρ.length := fun vs => by
        induction vs with
        | nil => rfl
        | cons v vs ih => unfold wipeS; rw [List.length_set, ih]
      exact this vs
    unfold wipeS
    by_cases h : v = j
    · subst h
      by_cases hl : v < ρ.length
      · rw [List.getElem?_set_self (by rw [hlen]; exact hl), if_pos ⟨List.mem_cons_self, hl⟩]
      · rw [List.getElem?_eq_none (by rw [List.length_set, hlen]; omega), if_neg (fun z => hl z.2), List.getElem?_eq_none (by omega)]
    · rw [List.getElem?_set_ne h, ih j]
      simp only [List.mem_cons, Ne.symm h, false_or]
theorem wipeS_len (ρ : Rho) : ∀ vs : List Nat, (wipeS vs ρ).length = ρ.length
  | [] => rfl
  | v :: vs => by unfold wipeS; rw [List.length_set, wipeS_len ρ vs]
theorem unwipeS_get (ρ0 ρ : Rho) (hl : ρ0.length = ρ.length) : ∀ (vs : List Nat), (unwipeS vs ρ0 ρ).length = ρ.length ∧ ∀ j, (unwipeS vs ρ0 ρ)[j]? = if j ∈ vs then ρ0[j]? else ρ[j]?
  | [] => ⟨rfl, fun j => by simp [unwipeS]⟩
  | v :: vs => by
    obtain ⟨i1, i2⟩ := unwipeS_get ρ0 ρ hl vs
    cases e : ρ0[v]? with
    | none =>
      have hv : ρ0.length ≤ v := List.getElem?_eq_none_iff.mp e
      have q : unwipeS (v :: vs) ρ0 ρ = unwipeS vs ρ0 ρ := by simp only [unwipeS, e]
      rw [q]
      refine ⟨i1, fun j => ?_⟩
      rw [i2 j]
      by_cases h : j = v
      · subst h
        rw [if_pos List.mem_cons_self, e]
        by_cases hj : j ∈ vs
        · rw [if_pos hj] <;> exact e
        · rw [if_neg hj, List.getElem?_eq_none (by omega)]
      · simp only [List.mem_cons, h, false_or]
    | some s =>
      have hv := get_len e
      have q : unwipeS (v :: vs) ρ0 ρ = (unwipeS vs ρ0 ρ).set v s := by simp only [unwipeS, e]
      rw [q]
      refine ⟨by rw [List.length_set, i1], fun j => ?_⟩
      by_cases h : v = j
      · subst h
        rw [List.getElem?_set_self (by rw [i1]; omega), if_pos List.mem_cons_self, e]
      · rw [List.getElem?_set_ne h, i2 j]
        simp only [List.mem_cons, Ne.symm h, false_or]
theorem maskS_len (o : Option Nat) (ρ : Rho) : (maskS o ρ).length = ρ.length := by
  cases o with
  | none => rfl
  | some i => show (ρ.set i .mk).length = _; rw [List.length_set]
/-- the block's start: its own slots and what is walked are hidden -/
theorem block_t {O : Addr → Prop} {φ : Nat → List Addr} {σ : L2.St} {ρ : Rho} {H : Hp} {o : Option Nat} {Z : List Addr} (own : List Nat) (h : St G O φ σ ρ H) (z : zOk o ρ φ Z) (hn : ∀ i, o = some i → i ∉ own) :
    ∃ G2 : Gx, G2.K = G.K ∧ St G2 O φ (wipe σ own) (wipeS own (maskS o ρ)) H ∧ (∀ b ∈ Z, ¬ Own φ (wipeS own (maskS o ρ)) b) ∧
      ∀ {φ2 O2 H2 ρ2 ρ3}, St G2 O2 φ2 (wipe σ own) ρ2 H2 → Tr φ (wipeS own (maskS o ρ)) O H φ2 ρ2 O2 H2 → backS o ρ (unwipeS own ρ ρ2) = some ρ3 → ∃ φ3, St G O2 φ3 σ ρ3 H2 ∧ Tr φ ρ O H φ3 ρ3 O2 H2 ∧ ∀ b, Own φ3 ρ3 b → Own φ2 ρ2 b ∨ H b ≠ none := by
  have len1 : (wipe σ own).length = (wipeS own (maskS o ρ)).length := by rw [wipe_length, wipeS_len, maskS_len]; exact h.len
  cases o with
  | none =>
    obtain rfl : Z = [] := z
    obtain ⟨s2, w2⟩ := h.hide (G2 := G) (ρ2 := wipeS own ρ) (σ2 := wipe σ own) own rfl rfl rfl rfl len1
      (fun j hj s e => by
        rw [wipeS_get] at e
        by_cases hl : j < ρ.length
        · rw [if_pos ⟨hj, hl⟩] at e
          exact .inl (Option.some.inj e).symm
        · rw [if_neg (fun y => hl y.2), List.getElem?_eq_none (by omega)] at e
          cases e)
      (fun j hj => by rw [wipeS_get, wipe_get, if_neg (fun y => hj y.1), if_neg (fun y => hj y.1)]; exact ⟨rfl, rfl⟩) fun _ _ => rfl
    refine ⟨G, rfl, s2, fun b hb => absurd hb (by simp), fun {φ2 O2 H2 ρ2 ρ3} s3 t3 e3 => ?_⟩
    cases e3
    have hlen : ρ.length = ρ2.length := by
      have := s3.len
      rw [wipe_length, h.len] at this
      exact this
    obtain ⟨u1, u2⟩ := unwipeS_get ρ ρ2 hlen own
    refine h.restore own s3 rfl rfl rfl rfl (fun _ _ => rfl) w2 t3 (by rw [u1, ← hlen]; exact h.len) (fun j hj => ⟨by rw [u2, if_pos hj], rfl⟩) fun j hj => ⟨by rw [u2, if_neg hj], ?_⟩
    rw [wipe_get, if_neg (fun y => hj y.1)]
  | some i =>
    obtain ⟨⟨p, d, ei⟩, zi⟩ := z
    have hio : i ∉ own := hn i rfl
    obtain ⟨a, ea, ra, _⟩ := h.ow i p d ei
    have hl := get_len ei
    let G2 : Gx := { G with ad := fun j => if j = i then some a else G.ad j }
    have gi : G2.ad i = some a := if_pos rfl
    have ga : ∀ j, j ∉ i :: own → G2.ad j = G.ad j := fun j hj => if_neg fun e => hj (by simp [e])
    have m1 : ∀ j, i ≠ j → (maskS (some i) ρ)[j]? = ρ[j]? := fun j hj => List.getElem?_set_ne hj
    have m2 : (maskS (some i) ρ)[i]? = some .mk := List.getElem?_set_self hl
    have ml : (maskS (some i) ρ).length = ρ.length := maskS_len _ _
    obtain ⟨s2, w2⟩ := h.hide (G2 := G2) (ρ2 := wipeS own (maskS (some i) ρ)) (σ2 := wipe σ own) (i :: own) rfl rfl rfl rfl len1
      (fun j hj s e => by
        rw [wipeS_get, ml] at e
        by_cases hj2 : j ∈ own
        · by_cases hlj : j < ρ.length
          · rw [if_pos ⟨hj2, hlj⟩] at e
            exact .inl (Option.some.inj e).symm
          · rw [if_neg (fun y => hlj y.2), List.getElem?_eq_none (by omega)] at e
            cases e
        · rw [if_neg (fun y => hj2 y.1)] at e
          have : j = i := by
            rcases List.mem_cons.mp hj with q | q
            · exact q
            · exact absurd q hj2
          subst this
          rw [m2] at e
          cases e
          exact .inr ⟨rfl, a, gi, by rw [wipe_get, if_neg (fun y => hj2 y.1)]; exact ea⟩)
      (fun j hj => by
        have h1 : j ∉ own := fun y => hj (List.mem_cons_of_mem _ y)
        have h2 : i ≠ j := fun y => hj (by simp [y])
        rw [wipeS_get, wipe_get, if_neg (fun y => h1 y.1), if_neg (fun y => h1 y.1), m1 j h2]; exact ⟨rfl, rfl⟩) ga
    refine ⟨G2, rfl, s2, fun b hb y => ?_, fun {φ2 O2 H2 ρ2 ρ3} s3 t3 e3 => ?_⟩
    · obtain ⟨k, q, d2, hk, e4, hb2⟩ := w2 b y
      exact h.dis i k p q d d2 ei e4 (fun x => hk (by simp [x])) b (zi b hb) hb2
    · have hlen : ρ.length = ρ2.length := by
        have := s3.len
        rw [wipe_length, h.len] at this
        exact this
      obtain ⟨u1, u2⟩ := unwipeS_get ρ ρ2 hlen own
      obtain ⟨em, e5⟩ : (unwipeS own ρ ρ2)[i]? = some .mk ∧ ρ3 = (unwipeS own ρ ρ2).set i (.ow p d) := by
        unfold backS at e3
        dsimp only at e3
        rw [ei] at e3
        split at e3
        · rename_i s q1 q2
          cases q1
          cases e3
          exact ⟨q2, rfl⟩
        · cases e3
      subst e5
      have hl2 := get_len em
      refine h.restore (i :: own) s3 rfl rfl rfl rfl ga w2 t3 (by rw [List.length_set, u1, ← hlen]; exact h.len) (fun j hj => ?_) fun j hj => ?_
      · refine ⟨?_, rfl⟩
        by_cases e : i = j
        · subst e
          rw [List.getElem?_set_self hl2, ei]
        · rw [List.getElem?_set_ne e, u2, if_pos ((List.mem_cons.mp hj).resolve_left (Ne.symm e))]
      · have h1 : j ∉ own := fun y => hj (List.mem_cons_of_mem _ y)
        have h2 : i ≠ j := fun y => hj (by simp [y])
        refine ⟨by rw [List.getElem?_set_ne h2, u2, if_neg h1], ?_⟩
        rw [wipe_get, if_neg (fun y => h1 y.1)]
theorem compL_len {own : List Nat} {tgt : Tgt} {cond : MT} {elt : M} : ∀ {xs : List D} {ρ ρ' : Rho} {ds : List D}, compL own tgt cond elt xs ρ = some (ds, ρ') → ds.length ≤ xs.length
  | [], _, _, _, e => by cases e; exact Nat.le_refl _
  | x :: xs, ρ, ρ', ds, e => by
    simp only [compL, Option.bind_eq_some_iff, Prod.exists] at e
    obtain ⟨ρ1, e1, c, ρ2, e2, e3⟩ := e
    cases c with
    | true =>
      rw [if_pos rfl] at e3
      simp only [Option.bind_eq_some_iff, Prod.exists, Option.some.injEq, Prod.mk.injEq] at e3
      obtain ⟨r, ρ3, e3, d, ρ4, e4, ds1, ρ5, e5, rfl, rfl⟩ := e3
      exact Nat.succ_le_succ (compL_len e5)
    | false =>
      rw [if_neg Bool.false_ne_true] at e3
      exact Nat.le_succ_of_le (compL_len e3)
theorem St.poke {O : Addr → Prop} {φ : Nat → List Addr} {σ : L2.St} {ρ : Rho} {H H' : Hp} {D : Addr} (h : St G O φ σ ρ H) (hD : O D) (nD : ¬ Own φ ρ D) (k : ∀ b, b ≠ D → H' b = H b) (there : H' D ≠ none) (h0 : G.H0 D = none) : St G O φ σ ρ H' := by
  have mv : ∀ b o, H b = some o → ¬ O b → H' b = some o := fun b o e n => by rw [k b fun z => n (z ▸ hD)]; exact e
  have dm : ∀ b, H b ≠ none → H' b ≠ none := fun b z => by
    by_cases e : b = D
    · rw [e]; exact there
    · rw [k b e]; exact z
  refine ⟨⟨h.len, fun i d e => ?_, fun i p d e => ?_, h.dis, fun b z => dm b (h.trk b z)⟩, fun b z => dm b (h.dom b z), fun b o e n => ?_, h.own, h.io, h.mkd, h.new⟩
  · obtain ⟨v, ev, r⟩ := h.fz i d e
    exact ⟨v, ev, r.tr mv fun _ z => .inl z⟩
  · obtain ⟨a, ea, r, q⟩ := h.ow i p d e
    exact ⟨a, ea, r.tr mv (fun _ z => .inl z) fun b hb o z => by rw [k b fun y => nD ⟨i, p, d, e, y ▸ hb⟩]; exact z, q⟩
  · rw [k b fun y => by rw [y, h0] at e; cases e]
    exact h.base b o e n
/-- the reading of a comprehension -/
theorem lc_t {K : PySem.W.Frag} {w : Bool} {src : Src} {tgt : Tgt} {cond : MT} {elt : M} {ix own : List Nat} (hG : G.K = K) (hix : ∀ i ∈ ix, i ∈ own) {σ : L2.St} {H : Hp} {Q : VK}
    (h : tM G (compS own src tgt cond elt) σ H Q) : tLc (tI G w src) (eG K ix w tgt) (eT K cond) (eM K elt) own σ H Q := by
  obtain ⟨O, φ, ρ, r, ρ', h1, h2, h3⟩ := h
  simp only [compS, Option.bind_eq_some_iff, Prod.exists] at h2
  obtain ⟨xs, o, ρ1, e1, h2⟩ := h2
  by_cases hb : xs.length ≤ 1000000 ∧ freeOf o own = true
  case neg =>
    rw [if_neg hb] at h2
    cases h2
  rw [if_pos hb] at h2
  obtain ⟨hb, hfree⟩ := hb
  simp only [Option.bind_eq_some_iff, Prod.exists, Option.some.injEq, Prod.mk.injEq] at h2
  obtain ⟨ds, ρ2, e2, ρ3, e3, rfl, rfl⟩ := h2
  refine ⟨O, φ, ρ, xs, o, ρ1, h1, e1, fun J H1 O1 φ1 Z P s1 t1 p1 F z => fun D hD => ?_⟩
  obtain ⟨G2, g2, s2, hz, back⟩ := block_t own s1 z fun i e => by
    subst e
    simpa [freeOf] using hfree
  have sm : Same H1 (upd H1 D (.lst [])) := fun b o e => by rw [upd_ne (ne_of_none e hD)]; exact e
  have hDn : ∀ b ∈ [D], H1 b = none := fun b hb => by simp at hb; subst hb; exact hD
  have hDt : ∀ b ∈ [D], (upd H1 D (.lst [])) b ≠ none := fun b hb => by simp at hb; subst hb; rw [upd_same]; exact fun z => nomatch z
  have s2' := s2.aside [D] hDn sm hDt
  have own2 : ∀ b, (O1 b ∨ b ∈ [D]) → O1 b ∨ H1 b = none := fun b z => z.imp id (hDn b)
  have p2 : P (fun b => O1 b ∨ b ∈ [D]) (upd H1 D (.lst [])) := F.mono O1 H1 _ _ p1 (fun b o e _ => sm b o e) own2 fun b _ o e => sm b o e
  have hZ : ∀ b ∈ Z, H1 b ≠ none := fun b hb => by
    cases o with
    | none =>
      obtain rfl : Z = [] := z
      cases hb
    | some i =>
      obtain ⟨⟨p, d, ei⟩, zi⟩ := z
      obtain ⟨a, ea, ra, _⟩ := s1.ow i p d ei
      exact ra.there.2 b (zi b hb)
  generalize hρb : wipeS own (maskS o ρ1) = ρb at *
  have nD1 : ¬ Own φ1 ρb D := fun z => s2.trk D (s2.sub z) hD
  have hD0 : G2.H0 D = none := s2.none0 hD
  have t0 : Tr φ1 ρb O1 H1 φ1 ρb (fun b => O1 b ∨ b ∈ [D]) (upd H1 D (.lst [])) := ⟨fun b o e _ => sm b o e, own2, fun _ z => .inl z, Same.dom sm, fun _ _ z _ => .inl z⟩
  have hK2 : G2.K = K := g2.trans hG
  refine ⟨fun i m H => m = xs.length - i ∧ i ≤ xs.length ∧ ∃ O φ ρ acc ads dsr, St G2 O φ (wipe σ own) ρ H ∧ Tr φ1 ρb O1 H1 φ ρ O H ∧ P O H ∧ H D = some (.lst acc) ∧ Rps K O H acc ads ∧ O D ∧ ¬ Own φ ρ D ∧ acc.length ≤ i ∧
    compL own tgt cond elt (xs.drop i) ρ = some (dsr, ρ2) ∧ ads ++ dsr = ds, ⟨_, rfl, Nat.zero_le _, _, φ1, ρb, [], [], ds, s2', t0, p2, upd_same, .nil, .inr (by simp), nD1, Nat.le_refl _, by simpa using e2, rfl⟩, ?_⟩
  rintro i m H2 ⟨rfl, hi, O2, φ2, ρc, acc, ads, dsr, s3, t3, p3, hacc, racc, nO, nOw3, hlen, e4, e5⟩
  by_cases hlt : i < xs.length
  · refine .inr ⟨F.go O2 H2 i p3 hlt, fun H' => ∃ O φ ρ acc ads dsr, St G2 O φ (wipe σ own) ρ H' ∧ Tr φ1 ρb O1 H1 φ ρ O H' ∧ P O H' ∧ H' D = some (.lst acc) ∧ Rps K O H' acc ads ∧ O D ∧ ¬ Own φ ρ D ∧ acc.length ≤ i + 1 ∧
      compL own tgt cond elt (xs.drop (i + 1)) ρ = some (dsr, ρ2) ∧ ads ++ dsr = ds, fun H' q => ⟨_, by omega, rfl, hlt, q⟩, fun x H' y => ?_⟩
    obtain ⟨sm3, d, ed, yv⟩ := F.yld O2 H2 i x H' hlt p3 y
    have s4 := s3.grow sm3
    rw [List.drop_eq_getElem_cons hlt] at e4
    have exd : xs[i] = d := by
      have := List.getElem?_eq_getElem hlt
      rw [ed] at this
      exact (Option.some.inj this).symm
    rw [exd] at e4
    simp only [compL, Option.bind_eq_some_iff, Prod.exists] at e4
    obtain ⟨ρ5, f5, c, ρ6, f6, f7⟩ := e4
    refine ⟨G2, hK2, O2, φ2, ρc, d, ρ5, s4, f5, by rw [hK2, ← hG]; exact yv, fun σ5 s5 t5 hw5 => ?_⟩
    have w5 : wipe σ5 own = wipe σ own := by
      rw [hw5 own hix]
      apply List.ext_getElem?
      intro j
      rw [wipe_get, wipe_length]
      by_cases c : j ∈ own ∧ j < σ.length
      · rw [if_pos c, wipe_get, if_pos c]
      · rw [if_neg c]
    refine ⟨w5, G2, hK2, O2, φ2, ρ5, c, ρ6, s5, f6, fun H6 O6 φ6 s6 t6 => ?_⟩
    have hD2 : H2 D ≠ none := by rw [hacc]; exact fun z => nomatch z
    -- what is said of D goes along
    have go : ∀ {O' : Addr → Prop} {φ' : Nat → List Addr} {ρ' : Rho} {H'' : Hp}, Tr φ2 ρc O2 H2 φ' ρ' O' H'' → H'' D = some (.lst acc) ∧ Rps K O' H'' acc ads ∧ O' D ∧ ¬ Own φ' ρ' D := fun {O' φ' ρ' H''} t => by
      refine ⟨t.keep D _ hacc nOw3, ?_, t.stay D hD2 nO nOw3, fun z => (t.mon D z).elim nOw3 hD2⟩
      rw [← hK2]
      rw [← hK2] at racc
      exact s3.rps t racc
    have p_go : ∀ {O' : Addr → Prop} {φ' : Nat → List Addr} {ρ' : Rho} {H'' : Hp}, Tr φ2 ρc O2 H2 φ' ρ' O' H'' → P O' H'' := fun {O' φ' ρ' H''} t => F.mono O2 H2 O' H'' p3 (fun b o z n => t.keep b o z fun y => n (s3.sub y)) t.own fun b hb o z => t.keep b o z fun y => by
      rcases t3.mon b y with w | w
      · exact hz b hb w
      · exact hZ b hb w
    -- a turn ends: the own slots are wiped
    have fin : ∀ {O' : Addr → Prop} {φ' : Nat → List Addr} {ρ' : Rho} {H'' : Hp}, St G2 O' φ' σ5 ρ' H'' → St G2 O' φ' (wipe σ own) (wipeS own ρ') H'' ∧ Tr φ' ρ' O' H'' φ' (wipeS own ρ') O' H'' := fun {O' φ' ρ' H''} s => by
      obtain ⟨q1, q2⟩ := s.hide (G2 := G2) (ρ2 := wipeS own ρ') (σ2 := wipe σ own) own rfl rfl rfl rfl (by rw [← w5, wipe_length, wipeS_len]; exact s.len)
        (fun j hj s' e => by
          rw [wipeS_get] at e
          by_cases hl : j < ρ'.length
          · rw [if_pos ⟨hj, hl⟩] at e
            exact .inl (Option.some.inj e).symm
          · rw [if_neg (fun y => hl y.2), List.getElem?_eq_none (by omega)] at e
            cases e)
        (fun j hj => by rw [← w5, wipeS_get, wipe_get, if_neg (fun y => hj y.1), if_neg (fun y => hj y.1)]; exact ⟨rfl, rfl⟩) fun _ _ => rfl
      refine ⟨q1, fun b o e _ => e, fun _ z => .inl z, fun b z => ?_, fun _ z => z, fun _ _ z _ => z⟩
      obtain ⟨j, p, d, _, e, hb⟩ := q2 b z
      exact .inl ⟨j, p, d, e, hb⟩
    have t6' : Tr φ2 ρc O2 H2 φ6 ρ6 O6 H6 := ((Tr.grow sm3).trans t5).trans t6
    show if c = true then _ else _
    cases c with
    | false =>
      rw [if_neg Bool.false_ne_true] at f7 ⊢
      obtain ⟨q1, q2⟩ := fin s6
      obtain ⟨g1, g3, g4, g5⟩ := go (t6'.trans q2)
      exact ⟨O6, φ6, _, acc, ads, dsr, q1, t3.trans (t6'.trans q2), p_go (t6'.trans q2), g1, g3, g4, g5, by omega, f7, e5⟩
    | true =>
      rw [if_pos rfl] at f7 ⊢
      simp only [Option.bind_eq_some_iff, Prod.exists, Option.some.injEq, Prod.mk.injEq] at f7
      obtain ⟨r, ρ7, f7, dv, ρ8, f8, dsr', ρ9, f9, rfl, rfl⟩ := f7
      refine ⟨G2, hK2, O6, φ6, ρ6, r, ρ7, s6, f7, fun v H7 O7 φ7 s7 t7 q7 => ?_⟩
      obtain ⟨O8, s8, t8, q8⟩ := force_ok s7 t7 q7 f8
      obtain ⟨s9, t9⟩ := fin s8
      have tt := t6'.trans (t8.trans t9)
      obtain ⟨g1, g3, g4, g5⟩ := go tt
      refine ⟨acc, g1, by rw [sizeLine_eq]; omega, ?_⟩
      -- the new list has one item more
      have kp : ∀ b, b ≠ D → (upd H7 D (.lst (acc ++ [v]))) b = H7 b := fun b n => upd_ne n
      have th : (upd H7 D (.lst (acc ++ [v]))) D ≠ none := by rw [upd_same]; exact fun z => nomatch z
      have mv : ∀ b o, H7 b = some o → ¬ O8 b → (upd H7 D (.lst (acc ++ [v]))) b = some o := fun b o e n => by rw [kp b fun z => n (z ▸ g4)]; exact e
      have s10 := s9.poke g4 g5 kp th hD0
      have ta := t3.trans tt
      rw [hK2] at q8
      refine ⟨O8, φ7, _, acc ++ [v], ads ++ [dv], dsr', s10, ⟨fun b o e n => ?_, ta.own, ta.mon, fun b z => ?_, ta.stay⟩, F.mono O8 H7 O8 _ (p_go tt) mv (fun _ z => .inl z) (fun b hb o z => ?_), upd_same, (g3.append (.cons q8 .nil)).tr mv fun _ z => .inl z, g4, g5, ?_, f9, by rw [List.append_assoc]; exact e5⟩
      · rw [kp b fun y => by rw [y, hD] at e; cases e]
        exact ta.keep b o e n
      · by_cases e : b = D
        · rw [e]; exact th
        · rw [kp b e]; exact ta.dom b z
      · rw [kp b fun y => hZ b hb (y ▸ hD)]; exact z
      · rw [List.length_append, List.length_singleton]; omega
  · have ei : i = xs.length := by omega
    subst ei
    rw [List.drop_length] at e4
    cases e4
    rw [List.append_nil] at e5
    subst e5
    obtain ⟨φ3, s4, t4, w4⟩ := back s3 t3 e3
    refine .inl ⟨F.stop O2 H2 p3, h3 _ H2 O2 φ3 s4 (t1.trans t4) ⟨D, [D], rfl, .lst hacc (by rw [hG]; exact racc), fun b hb => ?_⟩⟩
    simp at hb
    subst hb
    refine ⟨nO, ?_, fun y => (w4 b y).elim nOw3 fun y => y hD⟩
    cases q : H b with
    | none => rfl
    | some o => exact absurd hD (t1.dom b (by rw [q]; exact fun z => nomatch z))
end
end Al
end
section
namespace Al
open PySem PySem.Spec PyProof.Rows L2

section
variable {X : Cx} {G : Gx} {pos : Pos}
def XTs (X : Cx) (ifs : List Expr) (m : MT) : Prop := ∀ G : Gx, G.K = X.K → PTs X ifs (tT G m)
theorem PTs.imp {ifs : List Expr} {t t' : TT} (h : PTs X ifs t) (k : ∀ σ H Q, t' σ H Q → t σ H Q) : PTs X ifs t' := ⟨fun pins s σ H Q I q => h.run pins s σ H Q I (k _ _ _ q)⟩
theorem XTs.ex {ifs : List Expr} {m : MT} (h : XTs X ifs m) : PTs X ifs (eT X.K m) := ⟨fun pins s σ H Q I ⟨G, hG, q⟩ => (h G hG).run pins s σ H Q I q⟩
theorem ts_nil : XTs X [] yesT := fun G _ => PTs.imp pts_nil fun σ H Q h => by
  obtain ⟨O, φ, ρ, k, ρ', h1, h2, h3⟩ := h
  cases h2
  exact h3 H O φ h1 .refl
theorem ts_one {c : Expr} {t : MT} (h : XT X c t) : XTs X [c] t := fun G hG => pts_one (h G hG)

theorem x_comp {elt tg iter : Expr} {ifs : List Expr} {scope : Scope} {own : List (Str × Nat)} {ix : List Nat} {w : Bool} {src : Src} {tgt : Tgt} {cond : MT} {m : M} (hc : X.calm = true) (hN : X.N.Nodup) (hi : XI X tg iter w src) (ok : BlkOk X.N X.env.scope scope own)
    (hg : ∀ (s : Shared) (H : Hp) (C : Addr) (cl : List (Str × Addr)) (fp : List Addr), XG (X.blk s H scope (compEnvC scope cl C X.env) fp) tg ix w tgt) (ht : ∀ (s : Shared) (H : Hp) (C : Addr) (cl : List (Str × Addr)) (fp : List Addr), XTs (X.blk s H scope (compEnvC scope cl C X.env) fp) ifs cond)
    (he : ∀ (s : Shared) (H : Hp) (C : Addr) (cl : List (Str × Addr)) (fp : List Addr), XE (X.blk s H scope (compEnvC scope cl C X.env) fp) elt m) (hix : ∀ i ∈ ix, i ∈ own.map (·.2) := by decide) (hs : ∀ x, foldedSetIterable iter X.env x = pure x := by intro _; rfl) :
    XE X (.ListComp elt [⟨tg, iter, ifs, 0⟩] scope pos) (compS (own.map (·.2)) src tgt cond m) := fun G hG =>
  (pe_lc hc hN (hi G hG) ok (fun s H C cl fp => (hg s H C cl fp).ex) (fun s H C cl fp => (ht s H C cl fp).ex) (fun s H C cl fp => (he s H C cl fp).ex) hs).imp fun σ H Q h => lc_t hG hix h

/-! ### assignments -/
theorem s_set {i : Nat} {x : Str} {e : Expr} {m : M} {pos' : Pos} (hN : X.N.Nodup) (hi : X.N[i]? = some x) (hx : Loc X.env.scope x) (he : XE X e m) (hs : swapsWith e (some (.Name x pos')) pos.line X.env = pure false := by rfl)
    (hf : X.fn x = true ∨ X.env.scope.names.lookup x = some .local := by first | exact .inl rfl | exact .inr rfl | assumption) : XS X (.Assign [.Name x pos'] e pos) (asgS i m) := fun G hG =>
  (ps_set hN hi hx (he G hG) hs hf).imp fun D σ H h => asg_t h
theorem s_setLc {i : Nat} {y : Str} {py : Pos} {elt tg iter : Expr} {ifs : List Expr} {scope : Scope} {own : List (Str × Nat)} {spos : Pos} {ix : List Nat} {w : Bool} {src : Src} {tgt : Tgt} {cond : MT} {m : M} (hc : X.calm = true) (hN : X.N.Nodup) (hy : X.N[i]? = some y) (hyl : X.env.scope.names.lookup y = some .local)
    (hsw : swapsWith (.ListComp elt [⟨tg, iter, ifs, 0⟩] scope pos) (some (.Name y py)) spos.line X.env = pure true) (hi : XI X tg iter w src) (ok : BlkOk X.N X.env.scope scope own)
    (hg : ∀ (s : Shared) (H : Hp) (C : Addr) (cl : List (Str × Addr)) (fp : List Addr), XG (X.blk s H scope (compEnvC scope cl C X.env) fp) tg ix w tgt) (ht : ∀ (s : Shared) (H : Hp) (C : Addr) (cl : List (Str × Addr)) (fp : List Addr), XTs (X.blk s H scope (compEnvC scope cl C X.env) fp) ifs cond)
    (he : ∀ (s : Shared) (H : Hp) (C : Addr) (cl : List (Str × Addr)) (fp : List Addr), XE (X.blk s H scope (compEnvC scope cl C X.env) fp) elt m) (hix : ∀ i ∈ ix, i ∈ own.map (·.2) := by decide) (hs : ∀ x, foldedSetIterable iter X.env x = pure x := by intro _; rfl) :
    XS X (.Assign [.Name y py] (.ListComp elt [⟨tg, iter, ifs, 0⟩] scope pos) spos) (asgS i (compS (own.map (·.2)) src tgt cond m)) := fun G hG =>
  (ps_setLc hc hN hy hyl hsw (hi G hG) ok (fun s H C cl fp => (hg s H C cl fp).ex) (fun s H C cl fp => (ht s H C cl fp).ex) (fun s H C cl fp => (he s H C cl fp).ex) hs).imp fun D σ H h => lc_t hG hix (asg_t h)
/-- a, b = e, a tuple -/
theorem s_asgT {es : List Expr} {k n : Nat} {ix : List Nat} {e : Expr} {m : M} {tpos : Pos} (hc : X.calm = true) (hg : XGs X es ix) (hl : ix.length = n) (he : XE X e m)
    (hn : (assignEach es X.env).length = n := by rfl) (hst : (assignEach es X.env).findIdx? (·.1) = none := by rfl)
    (hs : swapsWithSole [.Tuple es k tpos] e pos.line X.env = pure false := by rfl) (hw : swappedStores [.Tuple es k tpos] e X.env = pure none := by rfl) : XS X (.Assign [.Tuple es k tpos] e pos) (asgT ix m) := fun G hG =>
  (ps_asg (he G hG) ((g_tup hc hg hl hn hst).ex) hs hw).imp fun D σ H h => by
    obtain ⟨O, φ, ρ, fl, ρ', h1, h2, h3⟩ := h
    simp only [asgT, Option.bind_eq_some_iff, Prod.exists] at h2
    obtain ⟨r, ρ1, e1, d, ρ2, e2, e3⟩ := h2
    split at e3
    · rename_i ds
      simp only [Option.bind_eq_some_iff, Option.some.injEq, Prod.mk.injEq] at e3
      obtain ⟨ρ3, e4, rfl, rfl⟩ := e3
      refine ⟨O, φ, ρ, r, ρ1, h1, e1, fun v H1 O1 φ1 s1 t1 q1 => ?_⟩
      obtain ⟨O2, s2, t2, q2⟩ := force_ok s1 t1 q1 e2
      exact ⟨G, hG, O2, φ1, ρ2, .tup ds, ρ3, s2, e4, .inl q2, fun σ' s3 t3 _ => h3 σ' H1 O2 φ1 s3 (t2.trans t3)⟩
    · cases e3

/-! ### while -/
theorem s_while {c : Expr} {sts : List Stmt} {n : Nat} {t : MT} {body : MS} (hp : PassesOwn (model X.prog X.w) X.A X.env X.xe) (hc : XT X c t) (hb : XSs X sts body) : XS X (.While c sts [] pos) (whileS n t body) := fun G hG =>
  (ps_while hp (hc G hG) (hb G hG)).imp fun D σ H h => by
    obtain ⟨O, φ, ρ, fl, ρ', h1, h2, h3⟩ := h
    refine ⟨fun m σ' H' => ∃ O' φ' ρ1, St G O' φ' σ' ρ1 H' ∧ Tr φ ρ O H φ' ρ1 O' H' ∧ whileN t body m ρ1 = some (fl, ρ'), ⟨n, O, φ, ρ, h1, .refl, h2⟩, ?_⟩
    rintro m σ1 H1 ⟨O1, φ1, ρ1, s1, t1, e1⟩
    cases m with
    | zero => cases e1
    | succ m =>
      simp only [whileN, Option.bind_eq_some_iff, Prod.exists] at e1
      obtain ⟨k, ρ2, e2, e3⟩ := e1
      refine ⟨O1, φ1, ρ1, k, ρ2, s1, e2, fun H2 O2 φ2 s2 t2 => ?_⟩
      cases k with
      | false =>
        show if false = true then _ else _
        rw [if_neg Bool.false_ne_true] at e3 ⊢
        cases e3
        exact h3 σ1 H2 O2 φ2 s2 (t1.trans t2)
      | true =>
        show if true = true then _ else _
        rw [if_pos rfl] at e3 ⊢
        simp only [Option.bind_eq_some_iff, Prod.exists] at e3
        obtain ⟨f1, ρ3, e4, e5⟩ := e3
        refine ⟨fun σ' H' => ∃ O' φ' ρ1, St G O' φ' σ' ρ1 H' ∧ Tr φ ρ O H φ' ρ1 O' H' ∧ whileN t body m ρ1 = some (fl, ρ'), fun σ' H' q => ⟨m, Nat.lt_succ_self m, q⟩, O2, φ2, ρ2, f1, ρ3, s2, e4, ?_⟩
        cases f1 with
        | nx => exact fun σ' H' O' φ' s3 t3 => ⟨O', φ', ρ3, s3, (t1.trans t2).trans t3, e5⟩
        | ct => exact fun σ' H' O' φ' s3 t3 => ⟨O', φ', ρ3, s3, (t1.trans t2).trans t3, e5⟩
        | bk =>
          cases e5
          exact fun σ' H' O' φ' s3 t3 => h3 σ' H' O' φ' s3 ((t1.trans t2).trans t3)
        | rt r =>
          cases e5
          exact fun σ' v H' O' φ' s3 t3 q3 => h3 σ' v H' O' φ' s3 ((t1.trans t2).trans t3) (q3.back (t1.trans t2).dom)

/-! ### a def: its promise -/
def RpN (K : PySem.W.Frag) (O : Addr → Prop) (Hs H : Hp) (φ : Nat → List Addr) (ρ : Rho) (v : V) : R → Prop
  | .val d => Rp K O H v d
  | .fr d => ∃ a fp, v = .ref a ∧ RpO K O H a d fp ∧ ∀ b ∈ fp, O b ∧ Hs b = none ∧ ¬ Own φ ρ b
  | .sl _ => False
/-- called with such data, the def gives what f says of it -/
def spF (K : PySem.W.Frag) (f : F) : Sp := fun vs H Q _ => ∃ O φ as r os, Sl K O φ (vs.map some) as H ∧ f as = some (r, os) ∧
  ∀ v H' O' φ', Sl K O' φ' (vs.map some) os H' → Tr φ as O H φ' os O' H' → (∀ (k : Nat) d, os[k]? = some (.ow true d) → ∀ b ∈ φ' k, b ∈ φ k ∨ H b = none) → RpN K O' H H' φ' os v r → Q v H'
theorem outs_ok : ∀ {as : List S} {ρ : Rho} {os : List S}, outs as ρ = some os → os.length = as.length ∧ ∀ (i : Nat) p d, os[i]? = some (.ow p d) → p = true ∧ ρ[i]? = some (.ow true d) ∧ ∃ d', as[i]? = some (.ow true d')
  | [], ρ, os, e => by
    cases e
    exact ⟨rfl, fun i p d e => by simp at e⟩
  | .ow true d0 :: as, .ow true d :: ρ, os, e => by
    simp only [outs, Option.bind_eq_some_iff, Option.some.injEq] at e
    obtain ⟨os1, e1, rfl⟩ := e
    obtain ⟨h1, h2⟩ := outs_ok e1
    refine ⟨by rw [List.length_cons, List.length_cons, h1], fun i p d' e => ?_⟩
    cases i with
    | zero =>
      simp at e
      obtain ⟨rfl, rfl⟩ := e
      exact ⟨rfl, rfl, d0, rfl⟩
    | succ i =>
      simp only [List.getElem?_cons_succ] at e ⊢
      exact h2 i p d' e
  | .fz d0 :: as, s :: ρ, os, e => by
    simp only [outs, Option.bind_eq_some_iff, Option.some.injEq] at e
    obtain ⟨os1, e1, rfl⟩ := e
    obtain ⟨h1, h2⟩ := outs_ok e1
    refine ⟨by rw [List.length_cons, List.length_cons, h1], fun i p d' e => ?_⟩
    cases i with
    | zero => simp at e
    | succ i =>
      simp only [List.getElem?_cons_succ] at e ⊢
      exact h2 i p d' e
  | .ow true _ :: _, [], _, e => by simp [outs] at e
  | .ow true _ :: _, .un :: _, _, e => by simp [outs] at e
  | .ow true _ :: _, .mk :: _, _, e => by simp [outs] at e
  | .ow true _ :: _, .fz _ :: _, _, e => by simp [outs] at e
  | .ow true _ :: _, .ow false _ :: _, _, e => by simp [outs] at e
  | .fz _ :: _, [], _, e => by simp [outs] at e
  | .un :: _, _, _, e => by simp [outs] at e
  | .mk :: _, _, _, e => by simp [outs] at e
  | .ow false _ :: _, _, _, e => by simp [outs] at e
theorem outs_un : ∀ {as : List S} {ρ : Rho} {os : List S}, outs as ρ = some os → ∀ (i : Nat) d, os[i]? ≠ some (.fz d)
  | [], ρ, os, e, i, d, z => by cases e; simp at z
  | .ow true d0 :: as, .ow true d1 :: ρ, os, e, i, d, z => by
    simp only [outs, Option.bind_eq_some_iff, Option.some.injEq] at e
    obtain ⟨os1, e1, rfl⟩ := e
    cases i with
    | zero => simp at z
    | succ i => exact outs_un e1 i d (by simpa using z)
  | .fz d0 :: as, s :: ρ, os, e, i, d, z => by
    simp only [outs, Option.bind_eq_some_iff, Option.some.injEq] at e
    obtain ⟨os1, e1, rfl⟩ := e
    cases i with
    | zero => simp at z
    | succ i => exact outs_un e1 i d (by simpa using z)
  | .ow true _ :: _, [], _, e, _, _, _ => by simp [outs] at e
  | .ow true _ :: _, .un :: _, _, e, _, _, _ => by simp [outs] at e
  | .ow true _ :: _, .mk :: _, _, e, _, _, _ => by simp [outs] at e
  | .ow true _ :: _, .fz _ :: _, _, e, _, _, _ => by simp [outs] at e
  | .ow true _ :: _, .ow false _ :: _, _, e, _, _, _ => by simp [outs] at e
  | .fz _ :: _, [], _, e, _, _, _ => by simp [outs] at e
  | .un :: _, _, _, e, _, _, _ => by simp [outs] at e
  | .mk :: _, _, _, e, _, _, _ => by simp [outs] at e
  | .ow false _ :: _, _, _, e, _, _, _ => by simp [outs] at e
theorem st_fun {N : List Str} {n : Nat} {vs : List V} {as : List S} {H : Hp} {K : PySem.W.Frag} {O : Addr → Prop} {φ : Nat → List Addr} (h : Sl K O φ (vs.map some) as H) (nf : as.all argOk = true) (hn : N.length = n) (hle : as.length ≤ n) :
    ∃ G : Gx, G.K = K ∧ G.H0 = H ∧ St G O φ (L2.start N vs) (as ++ List.replicate (n - as.length) .un) H ∧ (∀ b, Own φ (as ++ List.replicate (n - as.length) .un) b ↔ Own φ as b) ∧ G.J = Own φ as ∧ G.fp = φ ∧
      ∀ (i : Nat) d a, as[i]? = some (.ow true d) → G.ad i = some a → (vs.map some)[i]? = some (some (.ref a)) := by
  have hl : vs.length = as.length := by have := h.len; rwa [List.length_map] at this
  have g1 : ∀ (i : Nat) (s : S), (as ++ List.replicate (n - as.length) .un)[i]? = some s → s ≠ .un → as[i]? = some s := fun i s e ne => by
    by_cases hi : i < as.length
    · rwa [List.getElem?_append_left hi] at e
    · rw [List.getElem?_append_right (by omega), List.getElem?_replicate] at e
      split at e
      · exact absurd (Option.some.inj e).symm ne
      · cases e
  have g2 : ∀ (i : Nat) (s : S), as[i]? = some s → (as ++ List.replicate (n - as.length) .un)[i]? = some s := fun i s e => by
    rw [List.getElem?_append_left (get_len e)]; exact e
  have g3 : ∀ (i : Nat) x, (vs.map some)[i]? = some x → (L2.start N vs)[i]? = some x := fun i x e => by
    unfold L2.start
    rw [List.getElem?_append_left (List.getElem?_eq_some_iff.mp e).1]; exact e
  have ow : ∀ b, Own φ (as ++ List.replicate (n - as.length) .un) b ↔ Own φ as b := fun b => ⟨fun ⟨i, p, d, e, hb⟩ => ⟨i, p, d, g1 i _ e (fun z => by cases z), hb⟩, fun ⟨i, p, d, e, hb⟩ => ⟨i, p, d, g2 i _ e, hb⟩⟩
  have nof : ∀ (i : Nat) (s : S), as[i]? = some s → argOk s = true := fun i s e => List.all_eq_true.mp nf s (List.mem_of_getElem? e)
  let ad : Nat → Option Addr := fun i => match (vs.map some)[i]? with
    | some (some (.ref a)) => some a
    | _ => none
  have had : ∀ i a, ad i = some a → (vs.map some)[i]? = some (some (.ref a)) := fun i a e => by
    simp only [ad] at e
    split at e
    · rename_i a' e'
      cases e
      exact e'
    · cases e
  have had2 : ∀ i a, (vs.map some)[i]? = some (some (.ref a)) → ad i = some a := fun i a e => by
    simp only [ad, e]
  refine ⟨⟨K, H, Own φ as, ad, φ⟩, rfl, rfl, ⟨⟨by simp only [L2.start, List.length_append, List.length_map, List.length_replicate]; omega, fun i d e => ?_, fun i p d e => ?_, fun i j p q d1 d2 e1 e2 ne => h.dis i j p q d1 d2 (g1 i _ e1 fun z => by cases z) (g1 j _ e2 fun z => by cases z) ne, h.trk⟩, fun _ z => z, fun _ _ e _ => e, fun b z => .inl ((ow b).mp z), fun i d e => ?_, fun i e => ?_, fun i p d e => ?_⟩, ow, rfl, rfl, fun i d a _ e => had i a e⟩
  · obtain ⟨v, ev, r⟩ := h.fz i d (g1 i _ e fun z => by cases z)
    exact ⟨v, g3 i _ ev, r⟩
  · obtain ⟨a, ea, r⟩ := h.ow i p d (g1 i _ e fun z => by cases z)
    exact ⟨a, g3 i _ ea, r⟩
  · obtain ⟨a, ea, r⟩ := h.ow i true d (g1 i _ e fun z => by cases z)
    exact ⟨a, had2 i a ea, g3 i _ ea⟩
  · have := nof i _ (g1 i _ e fun z => by cases z)
    cases this
  · have := nof i _ (g1 i _ e fun z => by cases z)
    cases p with
    | true => exact fun b hb => .inl ⟨rfl, hb⟩
    | false => cases this
/-- THE RULE for a def -/
theorem fun_ok {P : Program} {w : World} {K : PySem.W.Frag} {mg : Str → Option Value} {base : Heap} {x qual : Str} {st : Stmt} {f : Addr} {fd : FuncData} {N ps : List Str} {k ar n : Nat} {m : MS} (F : Fun K x qual st f fd) (S : FnScope N ps (defScope st)) (hn : N.length = n) (ha : ps.length = ar) (hle : ar ≤ n)
    (hbody : ∀ (cdv : Value) (A : Around) (outer : List Env) (s : Shared) (H : Hp) (E : XK), Room k (A.deeper (envOfC qual (defScope st) s.heap.objs.size f cdv)) → XSs (cxOf CX0 P w K mg base N qual (defScope st) f cdv A outer s H E).nox (defBody st) m) :
    FnOk P w K mg base CX0 (k + 1) f fd ps (spF K (run ar n m)) := by
  have sp_len : ∀ vs H Q E, spF K (run ar n m) vs H Q E → vs.length = ar := fun vs H Q E h => by
    obtain ⟨O, φ, as, r, os, h1, h2, _⟩ := h
    unfold run at h2
    split at h2
    · rename_i c
      have := h1.len
      rw [List.length_map] at this
      rw [this, c.1]
    · cases h2
  refine F.ok S (fun vs H Q E h => by rw [ha]; exact sp_len vs H Q E h) fun cdv A outer s H vs Q E hr h => ?_
  obtain ⟨O, φ, as, r, os, h1, h2, h3⟩ := h
  unfold run at h2
  split at h2
  case isFalse => cases h2
  case isTrue c =>
    obtain ⟨G, gK, gH, s0, ow, gJ, gF, gad⟩ := st_fun (N := N) h1 c.2 hn (by rw [c.1]; exact hle)
    rw [c.1] at s0 ow
    refine ⟨tS G m, hbody cdv A outer s H E hr G gK, ?_⟩
    simp only [Option.bind_eq_some_iff, Prod.exists] at h2
    obtain ⟨fl, ρ', e1, e2⟩ := h2
    refine ⟨O, φ, _, fl, ρ', s0, e1, ?_⟩
    -- the end
    have fin : ∀ {σ' : L2.St} {H' : Hp} {O' : Addr → Prop} {φ' : Nat → List Addr}, outs as ρ' = some os → St G O' φ' σ' ρ' H' → Tr φ (as ++ List.replicate (n - ar) .un) O H φ' ρ' O' H' → Sl K O' φ' (vs.map some) os H' ∧ Tr φ as O H φ' os O' H' ∧ ∀ (k : Nat) d, os[k]? = some (.ow true d) → ∀ b ∈ φ' k, b ∈ φ k ∨ H b = none := fun {σ' H' O' φ'} eo s1 t1 => by
      obtain ⟨q1, q2⟩ := outs_ok eo
      have sub : ∀ b, Own φ' os b → Own φ' ρ' b := fun b ⟨i, p, d, e, hb⟩ => ⟨i, true, d, (q2 i p d e).2.1, hb⟩
      refine ⟨⟨by rw [q1, ← h1.len], fun i d e => absurd e (outs_un eo i d), fun i p d e => ?_, fun i j p q d1 d2 e3 e4 ne => s1.dis i j _ _ d1 d2 (q2 i p d1 e3).2.1 (q2 j q d2 e4).2.1 ne, s1.trk⟩, ⟨fun b o e nn => t1.keep b o e fun z => nn ((ow b).mp z), t1.own, fun b z => (t1.mon b (sub b z)).imp (ow b).mp id, t1.dom, fun b z o nn => t1.stay b z o fun y => nn ((ow b).mp y)⟩, fun k d e b hb => ?_⟩
      · obtain ⟨rfl, e3, d', e4⟩ := q2 i p d e
        obtain ⟨a, ea, es⟩ := s1.io i d e3
        obtain ⟨a', ea', r', qo⟩ := s1.ow i true d e3
        rw [es] at ea'
        cases ea'
        rw [gK] at r'
        exact ⟨a, gad i d' a e4 ea, r', qo⟩
      · have := s1.new k true d (q2 k _ d e).2.1 b hb
        rw [gF, gH] at this
        exact this.imp (fun z => z.2) id
    cases fl with
    | bk => cases e2
    | ct => cases e2
    | nx =>
      simp only [Option.bind_eq_some_iff, Option.some.injEq, Prod.mk.injEq] at e2
      obtain ⟨os', eo, rfl, rfl⟩ := e2
      intro σ' H' O' φ' s1 t1
      obtain ⟨q1, q2, q3⟩ := fin eo s1 t1
      exact h3 .non H' O' φ' q1 q2 q3 Rp.non
    | rt r0 =>
      simp only [Option.bind_eq_some_iff, Option.some.injEq, Prod.mk.injEq] at e2
      obtain ⟨r1, er, os', eo, rfl, rfl⟩ := e2
      intro σ' v H' O' φ' s1 t1 r2
      obtain ⟨q1, q2, q3⟩ := fin eo s1 t1
      refine h3 v H' O' φ' q1 q2 q3 ?_
      have sub : ∀ b, Own φ' os' b → Own φ' ρ' b := fun b ⟨i, p, d, e, hb⟩ => ⟨i, true, d, ((outs_ok eo).2 i p d e).2.1, hb⟩
      cases r0 with
      | val d =>
        cases er
        rw [← gK]
        exact r2
      | fr d =>
        cases er
        obtain ⟨a, fp, e3, e4, e5⟩ := r2
        rw [gK] at e4
        exact ⟨a, fp, e3, e4, fun b hb => ⟨(e5 b hb).1, (e5 b hb).2.1, fun z => (e5 b hb).2.2 (sub b z)⟩⟩
      | sl i =>
        simp only [retR] at er
        split at er
        · rename_i d ei
          cases er
          obtain ⟨a, ea, ra, qo⟩ := s1.ow i false d ei
          have r2 : σ'[i]? = some (some v) := r2
          rw [ea] at r2
          cases r2
          rw [gK] at ra
          refine ⟨a, φ' i, rfl, ra, fun b hb => ⟨qo b hb, (s1.new i false d ei b hb).elim (fun z => nomatch z.1) (fun z => by rw [← gH]; exact z), fun ⟨j, p, d2, e, hb2⟩ => ?_⟩⟩
          have e3 := ((outs_ok eo).2 j p d2 e).2.1
          refine s1.dis i j _ _ d d2 ei e3 (fun z => ?_) b hb hb2
          subst z
          rw [ei] at e3
          cases e3
        · cases er
end
end Al
end
section
namespace Al
open PySem PySem.Spec PyProof.Rows L2

section
variable {G : Gx} {O O1 : Addr → Prop} {φ φ1 : Nat → List Addr} {σ : L2.St} {ρ ρ1 : Rho} {H H1 : Hp}
theorem St.more {O' : Addr → Prop} {H' : Hp} (h : St G O φ σ ρ H) (s : Same H H') (o1 : ∀ b, O' b → O b ∨ H b = none) (o2 : ∀ b, O b → O' b) (o3 : ∀ b, O' b → H' b ≠ none) : St G O' φ σ ρ H' := by
  have h' := h.grow s
  refine ⟨⟨h'.len, fun i d e => ?_, fun i p d e => ?_, h'.dis, o3⟩, h'.dom, h'.base, h'.own, h'.io, h'.mkd, h'.new⟩
  · obtain ⟨v, ev, r⟩ := h.fz i d e
    exact ⟨v, ev, r.tr (fun b o z _ => s b o z) o1⟩
  · obtain ⟨a, ea, r, q⟩ := h.ow i p d e
    exact ⟨a, ea, r.tr (fun b o z _ => s b o z) o1 fun b _ o z => s b o z, fun b hb => o2 b (q b hb)⟩
theorem callP_t {f : F} {ms : List M} {Q : VK} {E : XK} (h : tM G (callP f ms) σ H Q) : tA G ms σ H fun vs H1 => spF G.K f (vs ++ []) H1 Q E := by
  obtain ⟨O, φ, ρ, r, ρ', h1, h2, h3⟩ := h
  simp only [callP, Option.bind_eq_some_iff, Prod.exists, Option.some.injEq, Prod.mk.injEq] at h2
  obtain ⟨rs, ρ1, e1, ds, ρ2, e2, r', os, e3, rfl, rfl⟩ := h2
  refine ⟨O, φ, ρ, rs, ρ1, h1, e1, fun vs H1 O1 φ1 s1 t1 q1 => ?_⟩
  obtain ⟨O2, s2, t2, q2⟩ := forces_ok s1 q1 e2
  rw [List.append_nil]
  have noOw : ∀ (i : Nat) p d, (ds.map S.fz)[i]? ≠ some (.ow p d) := fun i p d e => by
    rw [List.getElem?_map] at e
    cases q : ds[i]? with
    | none => rw [q] at e; cases e
    | some x => rw [q] at e; cases e
  have nOwn : ∀ b, ¬ Own φ1 (ds.map S.fz) b := fun b ⟨i, p, d, e, _⟩ => noOw i p d e
  refine ⟨O2, φ1, ds.map .fz, r', os, ⟨by rw [List.length_map, List.length_map, q2.length], fun i d e => ?_, fun i p d e => absurd e (noOw i p d), fun i j p q d1 d2 e => absurd e (noOw i p d1), s2.trk⟩, e3, fun v H' O' φ' l t nw rn => ?_⟩
  · rw [List.getElem?_map] at e
    cases q : ds[i]? with
    | none => rw [q] at e; cases e
    | some x =>
      rw [q] at e
      cases e
      obtain ⟨v, ev, rv⟩ := q2.get q
      exact ⟨v, by rw [List.getElem?_map, ev]; rfl, rv⟩
  · have sm : Same H1 H' := fun b o e => t.keep b o e (nOwn b)
    have s3 := s2.more sm t.own (fun b z => t.stay b (s2.trk b z) z (nOwn b)) l.trk
    have t3 : Tr φ1 ρ2 O2 H1 φ1 ρ2 O' H' := ⟨fun b o e _ => sm b o e, t.own, fun _ z => .inl z, Same.dom sm, fun b z o _ => t.stay b z o (nOwn b)⟩
    refine h3 v H' O' φ1 s3 ((t1.trans t2).trans t3) ?_
    cases r' with
    | val d => exact rn
    | sl i => exact rn.elim
    | fr d =>
      obtain ⟨a, fp, e4, e5, e6⟩ := rn
      refine ⟨a, fp, e4, e5, fun b hb => ⟨(e6 b hb).1, ?_, fun z => s2.trk b (s2.sub z) (e6 b hb).2.1⟩⟩
      cases q : H b with
      | none => rfl
      | some o => exact absurd (e6 b hb).2.1 (t1.dom b (by rw [q]; exact fun z => nomatch z))

/-! ### calls that may change what they are handed -/
def ioPos : List Bool → List R → Nat → Option Nat
  | true :: io, .sl i :: rs, j => if i = j then some 0 else (ioPos io rs j).map (· + 1)
  | _ :: io, _ :: rs, j => (ioPos io rs j).map (· + 1)
  | _, _, _ => none
theorem ioPos_some : ∀ {io : List Bool} {rs : List R} {j k : Nat}, ioPos io rs j = some k → io[k]? = some true ∧ rs[k]? = some (.sl j)
  | true :: io, .sl i :: rs, j, k, h => by
    simp only [ioPos] at h
    split at h
    · rename_i e
      cases h
      subst e
      exact ⟨rfl, rfl⟩
    · rw [Option.map_eq_some_iff] at h
      obtain ⟨k', h1, rfl⟩ := h
      obtain ⟨h2, h3⟩ := ioPos_some h1
      exact ⟨by simpa using h2, by simpa using h3⟩
  | true :: io, .val d :: rs, j, k, h => by
    simp only [ioPos, Option.map_eq_some_iff] at h
    obtain ⟨k', h1, rfl⟩ := h
    obtain ⟨h2, h3⟩ := ioPos_some h1
    exact ⟨by simpa using h2, by simpa using h3⟩
  | true :: io, .fr d :: rs, j, k, h => by
    simp only [ioPos, Option.map_eq_some_iff] at h
    obtain ⟨k', h1, rfl⟩ := h
    obtain ⟨h2, h3⟩ := ioPos_some h1
    exact ⟨by simpa using h2, by simpa using h3⟩
  | false :: io, r :: rs, j, k, h => by
    simp only [ioPos, Option.map_eq_some_iff] at h
    obtain ⟨k', h1, rfl⟩ := h
    obtain ⟨h2, h3⟩ := ioPos_some h1
    exact ⟨by simpa using h2, by simpa using h3⟩
  | [], [], _, _, h => by simp [ioPos] at h
  | [], _ :: _, _, _, h => by simp [ioPos] at h
  | true :: _, [], _, _, h => by simp [ioPos] at h
  | false :: _, [], _, _, h => by simp [ioPos] at h
theorem ioIx_mem : ∀ {io : List Bool} {rs : List R} {j k : Nat}, io[k]? = some true → rs[k]? = some (.sl j) → j ∈ ioIx io rs
  | true :: io, .sl i :: rs, j, 0, h1, h2 => by
    simp at h2
    subst h2
    exact List.mem_cons_self
  | true :: io, .sl i :: rs, j, k + 1, h1, h2 => List.mem_cons_of_mem _ (ioIx_mem (io := io) (rs := rs) (k := k) (by simpa using h1) (by simpa using h2))
  | true :: io, .val _ :: rs, j, 0, h1, h2 => by simp at h2
  | true :: io, .fr _ :: rs, j, 0, h1, h2 => by simp at h2
  | true :: io, .val _ :: rs, j, k + 1, h1, h2 => by
    simp only [ioIx]
    exact ioIx_mem (io := io) (rs := rs) (k := k) (by simpa using h1) (by simpa using h2)
  | true :: io, .fr _ :: rs, j, k + 1, h1, h2 => by
    simp only [ioIx]
    exact ioIx_mem (io := io) (rs := rs) (k := k) (by simpa using h1) (by simpa using h2)
  | false :: io, r :: rs, j, 0, h1, h2 => by simp at h1
  | false :: io, r :: rs, j, k + 1, h1, h2 => by
    simp only [ioIx]
    exact ioIx_mem (io := io) (rs := rs) (k := k) (by simpa using h1) (by simpa using h2)
  | [], _, _, _, h1, _ => by simp at h1
  | true :: _, [], _, _, _, h2 => by simp at h2
  | false :: _, [], _, _, _, h2 => by simp at h2
theorem ioPos_of : ∀ {io : List Bool} {rs : List R} {j k : Nat}, (ioIx io rs).Nodup → io[k]? = some true → rs[k]? = some (.sl j) → ioPos io rs j = some k
  | true :: io, .sl i :: rs, j, 0, hn, h1, h2 => by
    simp at h2
    subst h2
    simp [ioPos]
  | true :: io, .sl i :: rs, j, k + 1, hn, h1, h2 => by
    simp only [ioIx, List.nodup_cons] at hn
    have h1' : io[k]? = some true := by simpa using h1
    have h2' : rs[k]? = some (.sl j) := by simpa using h2
    have ne : i ≠ j := fun e => hn.1 (e ▸ ioIx_mem h1' h2')
    simp only [ioPos, if_neg ne, ioPos_of hn.2 h1' h2', Option.map_some]
  | true :: io, .val _ :: rs, j, 0, hn, h1, h2 => by simp at h2
  | true :: io, .fr _ :: rs, j, 0, hn, h1, h2 => by simp at h2
  | true :: io, .val _ :: rs, j, k + 1, hn, h1, h2 => by
    simp only [ioIx] at hn
    simp only [ioPos, ioPos_of (io := io) (rs := rs) (k := k) hn (by simpa using h1) (by simpa using h2), Option.map_some]
  | true :: io, .fr _ :: rs, j, k + 1, hn, h1, h2 => by
    simp only [ioIx] at hn
    simp only [ioPos, ioPos_of (io := io) (rs := rs) (k := k) hn (by simpa using h1) (by simpa using h2), Option.map_some]
  | false :: io, r :: rs, j, 0, hn, h1, h2 => by simp at h1
  | false :: io, r :: rs, j, k + 1, hn, h1, h2 => by
    simp only [ioIx] at hn
    simp only [ioPos, ioPos_of (io := io) (rs := rs) (k := k) hn (by simpa using h1) (by simpa using h2), Option.map_some]
  | [], _, _, _, _, h1, _ => by simp at h1
  | true :: _, [], _, _, _, _, h2 => by simp at h2
  | false :: _, [], _, _, _, _, h2 => by simp at h2
theorem argA_spec : ∀ {io : List Bool} {rs : List R} {as : List S}, argA ρ io rs = some as → as.length = rs.length ∧ io.length = rs.length ∧ ∀ (k : Nat) (s : S), as[k]? = some s →
    (∃ (i : Nat) (p : Bool) (d : D), io[k]? = some true ∧ rs[k]? = some (R.sl i) ∧ ρ[i]? = some (S.ow p d) ∧ s = S.ow true d) ∨ (∃ d : D, s = S.fz d ∧ (rs[k]? = some (R.val d) ∨ ∃ i : Nat, rs[k]? = some (R.sl i) ∧ ρ[i]? = some (S.fz d)))
  | [], [], as, h => by
    cases h
    exact ⟨rfl, rfl, fun k s e => by simp at e⟩
  | true :: io, .sl i :: rs, as, h => by
    simp only [argA] at h
    split at h
    · rename_i p d ei
      simp only [Option.bind_eq_some_iff, Option.some.injEq] at h
      obtain ⟨as1, h1, rfl⟩ := h
      obtain ⟨h2, h4, h3⟩ := argA_spec h1
      refine ⟨by rw [List.length_cons, List.length_cons, h2], by rw [List.length_cons, List.length_cons, h4], fun k s e => ?_⟩
      cases k with
      | zero =>
        simp at e
        subst e
        exact .inl ⟨i, p, d, rfl, rfl, ei, rfl⟩
      | succ k =>
        simp only [List.getElem?_cons_succ] at e ⊢
        exact h3 k s e
    · cases h
  | false :: io, .val d :: rs, as, h => by
    simp only [argA, Option.bind_eq_some_iff, Option.some.injEq] at h
    obtain ⟨as1, h1, rfl⟩ := h
    obtain ⟨h2, h4, h3⟩ := argA_spec h1
    refine ⟨by rw [List.length_cons, List.length_cons, h2], by rw [List.length_cons, List.length_cons, h4], fun k s e => ?_⟩
    cases k with
    | zero =>
      simp at e
      subst e
      exact .inr ⟨d, rfl, .inl rfl⟩
    | succ k =>
      simp only [List.getElem?_cons_succ] at e ⊢
      exact h3 k s e
  | false :: io, .sl i :: rs, as, h => by
    simp only [argA] at h
    split at h
    · rename_i d ei
      simp only [Option.bind_eq_some_iff, Option.some.injEq] at h
      obtain ⟨as1, h1, rfl⟩ := h
      obtain ⟨h2, h4, h3⟩ := argA_spec h1
      refine ⟨by rw [List.length_cons, List.length_cons, h2], by rw [List.length_cons, List.length_cons, h4], fun k s e => ?_⟩
      cases k with
      | zero =>
        simp at e
        subst e
        exact .inr ⟨d, rfl, .inr ⟨i, rfl, ei⟩⟩
      | succ k =>
        simp only [List.getElem?_cons_succ] at e ⊢
        exact h3 k s e
    · cases h
  | false :: io, .fr d :: rs, as, h => by simp [argA] at h
  | true :: io, .val d :: rs, as, h => by simp [argA] at h
  | true :: io, .fr d :: rs, as, h => by simp [argA] at h
  | [], _ :: _, _, h => by simp [argA] at h
  | true :: _, [], _, h => by simp [argA] at h
  | false :: _, [], _, h => by simp [argA] at h
theorem backA_spec : ∀ {io : List Bool} {rs : List R} {os : List S} {ρ ρ' : Rho}, backA io rs os ρ = some ρ' → (ioIx io rs).Nodup → ρ'.length = ρ.length ∧ ∀ j,
    (ioPos io rs j = none ∧ ρ'[j]? = ρ[j]?) ∨ ∃ k p d d0, ioPos io rs j = some k ∧ os[k]? = some (.ow true d) ∧ ρ[j]? = some (.ow p d0) ∧ ρ'[j]? = some (.ow p d)
  | [], [], [], ρ, ρ', h, hn => by
    cases h
    exact ⟨rfl, fun j => .inl ⟨rfl, rfl⟩⟩
  | true :: io, .sl i :: rs, .ow true d :: os, ρ, ρ', h, hn => by
    simp only [backA] at h
    split at h
    · rename_i p d0 ei
      simp only [ioIx, List.nodup_cons] at hn
      obtain ⟨h1, h2⟩ := backA_spec h hn.2
      refine ⟨by rw [h1, List.length_set], fun j => ?_⟩
      by_cases e : i = j
      · subst e
        refine .inr ⟨0, p, d, d0, by simp [ioPos], rfl, ei, ?_⟩
        rcases h2 i with ⟨h3, h4⟩ | ⟨k, p', d', d1, h3, h4, h5, h6⟩
        · rw [h4, List.getElem?_set_self (get_len ei)]
        · obtain ⟨q1, q2⟩ := ioPos_some h3
          exact absurd (ioIx_mem q1 q2) hn.1
      · rcases h2 j with ⟨h3, h4⟩ | ⟨k, p', d', d1, h3, h4, h5, h6⟩
        · exact .inl ⟨by simp [ioPos, e, h3], by rw [h4, List.getElem?_set_ne e]⟩
        · exact .inr ⟨k + 1, p', d', d1, by simp [ioPos, e, h3], by simpa using h4, by rw [List.getElem?_set_ne e] at h5; exact h5, h6⟩
    · cases h
  | false :: io, .val d0 :: rs, o :: os, ρ, ρ', h, hn => by
    simp only [backA] at h
    simp only [ioIx] at hn
    obtain ⟨h1, h2⟩ := backA_spec h hn
    refine ⟨h1, fun j => ?_⟩
    rcases h2 j with ⟨h3, h4⟩ | ⟨k, p', d', d1, h3, h4, h5, h6⟩
    · exact .inl ⟨by simp [ioPos, h3], h4⟩
    · exact .inr ⟨k + 1, p', d', d1, by simp [ioPos, h3], by simpa using h4, h5, h6⟩
  | false :: io, .sl i :: rs, o :: os, ρ, ρ', h, hn => by
    simp only [backA] at h
    simp only [ioIx] at hn
    obtain ⟨h1, h2⟩ := backA_spec h hn
    refine ⟨h1, fun j => ?_⟩
    rcases h2 j with ⟨h3, h4⟩ | ⟨k, p', d', d1, h3, h4, h5, h6⟩
    · exact .inl ⟨by simp [ioPos, h3], h4⟩
    · exact .inr ⟨k + 1, p', d', d1, by simp [ioPos, h3], by simpa using h4, h5, h6⟩
  | false :: io, .fr d0 :: rs, o :: os, ρ, ρ', h, hn => by
    simp only [backA] at h
    simp only [ioIx] at hn
    obtain ⟨h1, h2⟩ := backA_spec h hn
    refine ⟨h1, fun j => ?_⟩
    rcases h2 j with ⟨h3, h4⟩ | ⟨k, p', d', d1, h3, h4, h5, h6⟩
    · exact .inl ⟨by simp [ioPos, h3], h4⟩
    · exact .inr ⟨k + 1, p', d', d1, by simp [ioPos, h3], by simpa using h4, h5, h6⟩
  | [], _ :: _, _, _, _, h, _ => by simp [backA] at h
  | [], [], _ :: _, _, _, h, _ => by simp [backA] at h
  | true :: _, [], _, _, _, h, _ => by simp [backA] at h
  | false :: _, [], _, _, _, h, _ => by simp [backA] at h
  | false :: _, _ :: _, [], _, _, h, _ => by simp [backA] at h
  | true :: _, .val _ :: _, _, _, _, h, _ => by simp [backA] at h
  | true :: _, .fr _ :: _, _, _, _, h, _ => by simp [backA] at h
  | true :: _, .sl _ :: _, [], _, _, h, _ => by simp [backA] at h
  | true :: _, .sl _ :: _, .un :: _, _, _, h, _ => by simp [backA] at h
  | true :: _, .sl _ :: _, .mk :: _, _, _, h, _ => by simp [backA] at h
  | true :: _, .sl _ :: _, .fz _ :: _, _, _, h, _ => by simp [backA] at h
  | true :: _, .sl _ :: _, .ow false _ :: _, _, _, h, _ => by simp [backA] at h
theorem frzA_ok : ∀ {io : List Bool} {vs : List V} {rs : List R} {O : Addr → Prop} {ρ ρ' : Rho}, St G O φ σ ρ H → RpAs G O σ H vs rs → frzA io rs ρ = some ρ' →
    ∃ O1 : Addr → Prop, St G O1 φ σ ρ' H ∧ Tr φ ρ O H φ ρ' O1 H ∧ RpAs G O1 σ H vs rs
  | [], _, [], O, ρ, ρ', h, k, e => by
    cases e
    exact ⟨O, h, .refl, k⟩
  | true :: io, _, .val d :: rs, O, ρ, ρ', h, .val r k, e => by
    simp only [frzA] at e
    obtain ⟨O1, h1, t1, k1⟩ := frzA_ok h k e
    exact ⟨O1, h1, t1, .val (h.rp t1 r) k1⟩
  | true :: io, _, .sl i :: rs, O, ρ, ρ', h, .sl q k, e => by
    simp only [frzA] at e
    obtain ⟨O1, h1, t1, k1⟩ := frzA_ok h k e
    exact ⟨O1, h1, t1, .sl q k1⟩
  | false :: io, _, .val d :: rs, O, ρ, ρ', h, .val r k, e => by
    simp only [frzA, force, Option.bind_some] at e
    obtain ⟨O1, h1, t1, k1⟩ := frzA_ok h k e
    exact ⟨O1, h1, t1, .val (h.rp t1 r) k1⟩
  | false :: io, _, .sl i :: rs, O, ρ, ρ', h, .sl q k, e => by
    simp only [frzA, Option.bind_eq_some_iff, Prod.exists] at e
    obtain ⟨d, ρ1, e1, e2⟩ := e
    obtain ⟨O1, h1, t1, r1⟩ := force_ok (r := .sl i) h .refl q e1
    obtain ⟨O2, h2, t2, k2⟩ := frzA_ok h1 (RpAs.tr h t1 k) e2
    exact ⟨O2, h2, t1.trans t2, .sl q k2⟩
  | [], _, _ :: _, _, _, _, _, _, e => by simp [frzA] at e
  | true :: _, _, [], _, _, _, _, _, e => by simp [frzA] at e
  | false :: _, _, [], _, _, _, _, _, e => by simp [frzA] at e
theorem RpAs.get : ∀ {vs : List V} {rs : List R} {k : Nat} {r : R}, RpAs G O σ H vs rs → rs[k]? = some r → ∃ v, vs[k]? = some v ∧ ((∃ d, r = .val d ∧ Rp G.K O H v d) ∨ ∃ i, r = .sl i ∧ σ[i]? = some (some v))
  | _ :: _, _ :: _, 0, r, .val (d := d) q _, e => by
    simp at e
    subst e
    exact ⟨_, rfl, .inl ⟨d, rfl, q⟩⟩
  | _ :: _, _ :: _, 0, r, .sl (i := i) q _, e => by
    simp at e
    subst e
    exact ⟨_, rfl, .inr ⟨i, rfl, q⟩⟩
  | _ :: _, _ :: _, k + 1, r, .val _ q, e => by
    obtain ⟨v, h⟩ := RpAs.get (k := k) q (by simpa using e)
    exact ⟨v, by simpa using h⟩
  | _ :: _, _ :: _, k + 1, r, .sl _ q, e => by
    obtain ⟨v, h⟩ := RpAs.get (k := k) q (by simpa using e)
    exact ⟨v, by simpa using h⟩
  | _, [], _, _, _, e => by simp at e
theorem RpAs.length : ∀ {vs : List V} {rs : List R}, RpAs G O σ H vs rs → vs.length = rs.length
  | _, _, .nil => rfl
  | _, _, .val _ q => by rw [List.length_cons, List.length_cons, RpAs.length q]
  | _, _, .sl _ q => by rw [List.length_cons, List.length_cons, RpAs.length q]
theorem callS_t {f : F} {io : List Bool} {ms : List M} {Q : VK} {E : XK} (h : tM G (callS f io ms) σ H Q) : tA G ms σ H fun vs H1 => spF G.K f (vs ++ []) H1 Q E := by
  obtain ⟨O, φ, ρ, r, ρ', h1, h2, h3⟩ := h
  simp only [callS, Option.bind_eq_some_iff, Prod.exists] at h2
  obtain ⟨rs, ρ1, e1, ρ2, e2, as, e3, h2⟩ := h2
  split at h2
  case isFalse => cases h2
  case isTrue nd =>
    simp only [Option.bind_eq_some_iff, Prod.exists, Option.some.injEq, Prod.mk.injEq] at h2
    obtain ⟨r', os, e4, ρ3, e5, rfl, rfl⟩ := h2
    refine ⟨O, φ, ρ, rs, ρ1, h1, e1, fun vs H1 O1 φ1 s1 t1 q1 => ?_⟩
    obtain ⟨O2, s2, t2, q2⟩ := frzA_ok s1 q1 e2
    rw [List.append_nil]
    obtain ⟨al, il, asp⟩ := argA_spec e3
    obtain ⟨bl, bsp⟩ := backA_spec e5 nd
    let φa : Nat → List Addr := fun k => match rs[k]? with
      | some (.sl i) => φ1 i
      | _ => []
    have fa : ∀ {k i : Nat}, rs[k]? = some (R.sl i) → φa k = φ1 i := fun {k i} e => by simp only [φa, e]
    have ownA : ∀ b, Own φa as b → ∃ (k i : Nat) (p : Bool) (d : Al.D), io[k]? = some true ∧ rs[k]? = some (R.sl i) ∧ ρ2[i]? = some (.ow p d) ∧ b ∈ φ1 i := fun b ⟨k, p, d, e, hb⟩ => by
      rcases asp k _ e with ⟨i, p', d', q3, q4, q5, q6⟩ | ⟨d', q3, _⟩
      · rw [fa q4] at hb
        exact ⟨k, i, p', d', q3, q4, q5, hb⟩
      · cases q3
    have ownA2 : ∀ b, Own φa as b → Own φ1 ρ2 b := fun b z => let ⟨k, i, p, d, _, _, e, hb⟩ := ownA b z; ⟨i, p, d, e, hb⟩
    refine ⟨O2, φa, as, r', os, ⟨by rw [List.length_map, al, q2.length], fun k d e => ?_, fun k p d e => ?_, fun j k p q d1 d2 e6 e7 ne => ?_, s2.trk⟩, e4, fun v H' O' φ' l t nw rn => ?_⟩
    · rcases asp k _ e with ⟨i, p', d', q3, q4, q5, q6⟩ | ⟨d', q3, q4⟩
      · cases q6
      · cases q3
        rcases q4 with q4 | ⟨i, q4, q5⟩
        · obtain ⟨v, ev, ⟨d2, z, rv⟩ | ⟨i, z, _⟩⟩ := q2.get q4
          · cases z
            exact ⟨v, by rw [List.getElem?_map, ev]; rfl, rv⟩
          · cases z
        · obtain ⟨v, ev, ⟨d2, z, rv⟩ | ⟨i', z, es⟩⟩ := q2.get q4
          · cases z
          · cases z
            obtain ⟨v', ev', rv⟩ := s2.fz i d q5
            rw [es] at ev'
            cases ev'
            exact ⟨v, by rw [List.getElem?_map, ev]; rfl, rv⟩
    · rcases asp k _ e with ⟨i, p', d', q3, q4, q5, q6⟩ | ⟨d', q3, q4⟩
      · cases q6
        obtain ⟨v, ev, ⟨d2, z, rv⟩ | ⟨i', z, es⟩⟩ := q2.get q4
        · cases z
        · cases z
          obtain ⟨a, ea, ra, qo⟩ := s2.ow i p' d q5
          rw [es] at ea
          cases ea
          rw [fa q4]
          exact ⟨a, by rw [List.getElem?_map, ev]; rfl, ra, qo⟩
      · cases q3
    · rcases asp j _ e6 with ⟨i, p', d', q3, q4, q5, q6⟩ | ⟨d', q3, _⟩
      · rcases asp k _ e7 with ⟨i2, p2, d2', q7, q8, q9, q10⟩ | ⟨d', q7, _⟩
        · rw [fa q4, fa q8]
          refine s2.dis i i2 _ _ _ _ q5 q9 fun z => ne ?_
          subst z
          have a1 := ioPos_of nd q3 q4
          have a2 := ioPos_of nd q7 q8
          rw [a1] at a2
          exact Option.some.inj a2
        · cases q7
      · cases q3
    · -- behind the call
      have mv : ∀ b o, H1 b = some o → ¬ O2 b → H' b = some o := fun b o e n => t.keep b o e fun z => n (s2.sub (ownA2 b z))
      let φ3 : Nat → List Addr := fun j => match ioPos io rs j with
        | some k => φ' k
        | none => φ1 j
      have f3 : ∀ {j k}, ioPos io rs j = some k → φ3 j = φ' k := fun {j k} e => by simp only [φ3, e]
      have f4 : ∀ {j}, ioPos io rs j = none → φ3 j = φ1 j := fun {j} e => by simp only [φ3, e]
      have cls : ∀ {j p d}, ρ3[j]? = some (.ow p d) → (ioPos io rs j = none ∧ ρ2[j]? = some (.ow p d)) ∨ ∃ k d0, ioPos io rs j = some k ∧ os[k]? = some (.ow true d) ∧ ρ2[j]? = some (.ow p d0) := fun {j p d} e => by
        rcases bsp j with ⟨q3, q4⟩ | ⟨k, p', d', d0, q3, q4, q5, q6⟩
        · exact .inl ⟨q3, by rw [← q4]; exact e⟩
        · rw [q6] at e
          cases e
          exact .inr ⟨k, d0, q3, q4, q5⟩
      -- an io slot's old footprint is the call's, another slot's is not
      have nio : ∀ {j p d}, ioPos io rs j = none → ρ2[j]? = some (.ow p d) → ∀ b ∈ φ1 j, ¬ Own φa as b := fun {j p d} hj e b hb z => by
        obtain ⟨k, i, p', d', q3, q4, q5, hb2⟩ := ownA b z
        refine s2.dis j i _ _ _ _ e q5 (fun y => ?_) b hb hb2
        subst y
        rw [ioPos_of nd q3 q4] at hj
        cases hj
      have ownOs : ∀ {k d b}, os[k]? = some (.ow true d) → b ∈ φ' k → Own φ' os b := fun {k d b} e hb => ⟨k, true, d, e, hb⟩
      have vat : ∀ {k j}, ioPos io rs j = some k → ∃ v, vs[k]? = some v ∧ σ[j]? = some (some v) := fun {k j} e => by
        obtain ⟨q3, q4⟩ := ioPos_some e
        obtain ⟨v, ev, ⟨d2, z, rv⟩ | ⟨i', z, es⟩⟩ := q2.get q4
        · cases z
        · cases z
          exact ⟨v, ev, es⟩
      have s3 : St G O' φ3 σ ρ3 H' := by
        refine ⟨⟨by rw [bl]; exact s2.len, fun j d e => ?_, fun j p d e => ?_, fun i j p q d1 d2 e6 e7 ne => ?_, l.trk⟩, fun b z => t.dom b (s2.dom b z), fun b o e n => ?_, fun b z => ?_, fun j d e => ?_, fun j e => ?_, fun j p d e => ?_⟩
        · rcases bsp j with ⟨q3, q4⟩ | ⟨k, p', d', d0, q3, q4, q5, q6⟩
          · rw [q4] at e
            obtain ⟨v, ev, rv⟩ := s2.fz j d e
            exact ⟨v, ev, rv.tr mv t.own⟩
          · rw [q6] at e; cases e
        · rcases cls e with ⟨q3, q4⟩ | ⟨k, d0, q3, q4, q5⟩
          · obtain ⟨a, ea, ra, qo⟩ := s2.ow j p d q4
            rw [f4 q3]
            exact ⟨a, ea, ra.tr mv t.own fun b hb o w => t.keep b o w (nio q3 q4 b hb), fun b hb => t.stay b (s2.trk b (qo b hb)) (qo b hb) (nio q3 q4 b hb)⟩
          · obtain ⟨a, ea, ra, qo⟩ := l.ow k true d q4
            obtain ⟨v, ev, es⟩ := vat q3
            rw [List.getElem?_map, ev] at ea
            cases ea
            rw [f3 q3]
            exact ⟨a, es, ra, qo⟩
        · rcases cls e6 with ⟨q3, q4⟩ | ⟨k, d0, q3, q4, q5⟩
          · rw [f4 q3]
            rcases cls e7 with ⟨q6, q7⟩ | ⟨k2, d3, q6, q7, q8⟩
            · rw [f4 q6]; exact s2.dis i j _ _ _ _ q4 q7 ne
            · rw [f3 q6]
              intro b hb z
              rcases t.mon b (ownOs q7 z) with y | y
              · exact nio q3 q4 b hb y
              · exact s2.trk b (s2.sub ⟨i, _, _, q4, hb⟩) y
          · rw [f3 q3]
            rcases cls e7 with ⟨q6, q7⟩ | ⟨k2, d3, q6, q7, q8⟩
            · rw [f4 q6]
              intro b hb z
              rcases t.mon b (ownOs q4 hb) with y | y
              · exact nio q6 q7 b z y
              · exact s2.trk b (s2.sub ⟨j, _, _, q7, z⟩) y
            · rw [f3 q6]
              refine l.dis k k2 _ _ _ _ q4 q7 fun z => ne ?_
              subst z
              have a1 := (ioPos_some q3).2
              have a2 := (ioPos_some q6).2
              rw [a1] at a2
              cases a2
              rfl
        · by_cases hb : Own φa as b
          · rcases s2.own b (ownA2 b hb) with z | z
            · exact absurd z n
            · rw [z] at e; cases e
          · exact t.keep b o (s2.base b o e n) hb
        · obtain ⟨j, p, d, e, hb⟩ := z
          rcases cls e with ⟨q3, q4⟩ | ⟨k, d0, q3, q4, q5⟩
          · rw [f4 q3] at hb
            exact s2.own b ⟨j, p, d, q4, hb⟩
          · rw [f3 q3] at hb
            rcases t.mon b (ownOs q4 hb) with y | y
            · exact s2.own b (ownA2 b y)
            · exact .inr (s2.none0 y)
        · rcases cls e with ⟨q3, q4⟩ | ⟨k, d0, q3, q4, q5⟩
          · exact s2.io j d q4
          · exact s2.io j d0 q5
        · rcases bsp j with ⟨q3, q4⟩ | ⟨k, p', d', d0, q3, q4, q5, q6⟩
          · rw [q4] at e; exact s2.mkd j e
          · rw [q6] at e; cases e
        · rcases cls e with ⟨q3, q4⟩ | ⟨k, d0, q3, q4, q5⟩
          · rw [f4 q3]; exact s2.new j p d q4
          · rw [f3 q3]
            intro b hb
            rcases nw k _ q4 b hb with y | y
            · rw [fa (ioPos_some q3).2] at y
              exact s2.new j p d0 q5 b y
            · exact .inr (s2.none0 y)
      have sub3 : ∀ b, Own φ3 ρ3 b → Own φ1 ρ2 b ∨ H1 b = none := fun b ⟨j, p, d, e, hb⟩ => by
        rcases cls e with ⟨q3, q4⟩ | ⟨k, d0, q3, q4, q5⟩
        · rw [f4 q3] at hb
          exact .inl ⟨j, p, d, q4, hb⟩
        · rw [f3 q3] at hb
          rcases t.mon b (ownOs q4 hb) with y | y
          · exact .inl (ownA2 b y)
          · exact .inr y
      have t3 : Tr φ1 ρ2 O2 H1 φ3 ρ3 O' H' := ⟨fun b o e n => t.keep b o e fun z => n (ownA2 b z), t.own, sub3, t.dom, fun b z o n => t.stay b z o fun y => n (ownA2 b y)⟩
      refine h3 v H' O' φ3 s3 ((t1.trans t2).trans t3) ?_
      cases r' with
      | val d => exact rn
      | sl i => exact rn.elim
      | fr d =>
        obtain ⟨a, fp, e6, e7, e8⟩ := rn
        refine ⟨a, fp, e6, e7, fun b hb => ⟨(e8 b hb).1, ?_, fun ⟨j, p, d2, e, hb2⟩ => ?_⟩⟩
        · cases q : H b with
          | none => rfl
          | some o => exact absurd (e8 b hb).2.1 (t1.dom b (by rw [q]; exact fun z => nomatch z))
        · rcases cls e with ⟨q3, q4⟩ | ⟨k, d0, q3, q4, q5⟩
          · rw [f4 q3] at hb2
            exact s2.trk b (s2.sub ⟨j, p, d2, q4, hb2⟩) (e8 b hb).2.1
          · rw [f3 q3] at hb2
            exact (e8 b hb).2.2 (ownOs q4 hb2)
end
end Al
end
section
namespace Al
open PySem PySem.Spec PyProof.Rows L2

section
variable {X : Cx} {G : Gx} {pos : Pos} {e : Expr} {es : List Expr} {m : M} {ms : List M}
theorem tA_mono {σ : L2.St} {H : Hp} {Q Q' : List V → Hp → Prop} (h : tA G ms σ H Q) (k : ∀ vs H', Q vs H' → Q' vs H') : tA G ms σ H Q' := by
  obtain ⟨O, φ, ρ, rs, ρ', h1, h2, h3⟩ := h
  exact ⟨O, φ, ρ, rs, ρ', h1, h2, fun vs H' O' φ' a b c => k _ _ (h3 vs H' O' φ' a b c)⟩
/-! ### calls of the text's own defs -/
theorem x_callP {f : F} {a : Addr} {fd : FuncData} {ps : List Str} {k : Nat} {x : Str} {p : Pos} (F : FnOk X.prog X.w X.K X.mg X.base CX0 k a fd ps (spF X.K f)) (hr : Room k X.A) (hg : Gl X x) (hm : X.mg x = some (.ref a)) (hk : PySem.W.keepIn X.K (.ref a) = true) (hb : Binds X.K fd ps [])
    (ha : XA X (e :: es) ms) (hdb : (x == ("__debug__" : Str)) = false := by decide) (he : starEach (e :: es) X.env = (false, eval e X.env) :: starEach es X.env := by rfl) (hpl : (backTo pos (starEach es X.env)).any (·.1) = false := by rfl) :
    XE X (.Call (.Name x p) (e :: es) [] pos) (callP f ms) := fun G hG => by
  have q := pe_call (p := p) (pos := pos) (E := E0) F hr hg hm hk hb .nil pass0 (ha G hG) hdb he hpl
  rw [← hG] at q
  exact q.imp fun _ _ _ h => callP_t h
theorem x_callS {f : F} {io : List Bool} {a : Addr} {fd : FuncData} {ps : List Str} {k : Nat} {x : Str} {p : Pos} (F : FnOk X.prog X.w X.K X.mg X.base CX0 k a fd ps (spF X.K f)) (hr : Room k X.A) (hg : Gl X x) (hm : X.mg x = some (.ref a)) (hk : PySem.W.keepIn X.K (.ref a) = true) (hb : Binds X.K fd ps [])
    (ha : XA X (e :: es) ms) (hdb : (x == ("__debug__" : Str)) = false := by decide) (he : starEach (e :: es) X.env = (false, eval e X.env) :: starEach es X.env := by rfl) (hpl : (backTo pos (starEach es X.env)).any (·.1) = false := by rfl) :
    XE X (.Call (.Name x p) (e :: es) [] pos) (callS f io ms) := fun G hG => by
  have q := pe_call (p := p) (pos := pos) (E := E0) F hr hg hm hk hb .nil pass0 (ha G hG) hdb he hpl
  rw [← hG] at q
  exact q.imp fun _ _ _ h => callS_t h

/-! ### displays -/
theorem same_new {H : Hp} {p : Addr} (h : H p = none) (o : HO) : Same H (upd H p o) := fun b u q => by rw [upd_ne (ne_of_none q h)]; exact q
theorem vals_tupF {H : Hp} {xs : List V} {K : PySem.W.Frag} {O : Addr → Prop} {ds : List D} {p : Addr} {o : Obj} (hp : H p = none) (hd : o.dict = none) (hO : ∀ b, O b → H b ≠ none) (r : Rps K O H xs ds) : Rp K O (upd H p (.frz o (.tup xs))) (.ref p) (.tup ds) :=
  .tup upd_same hd (fun z => hO p z hp) (r.tr (fun b u q _ => same_new hp _ b u q) fun _ z => .inl z)
/-- (a, b, ..), the very object known -/
theorem pe_tupF {t : TA} {x1 : Nat} (h : PA X es t) : PE X (.Tuple es x1 pos) (fun σ H Q => t σ H fun xs H1 => xs.length ≤ sizeLine ∧ ∀ p o, H1 p = none → o.dict = none → Q (.ref p) (upd H1 p (.frz o (.tup xs)))) := by
  refine ⟨fun pins s σ H Q I hq => ?_⟩
  refine wpAny_Tuple_spliced (thn (h.run pos pins s σ H _ I hq) fun us s1 hz => ?_)
  obtain ⟨xs, H1, I1, r, z, q⟩ := hz
  have fr : H1 s1.heap.objs.size = none := I1.hok.fresh (Nat.le_refl _)
  refine ⟨by rw [← r.length]; exact z, ?_⟩
  have g : (s1.heap.push { cls := .type "tuple", data := .seq us.toArray }).get? s1.heap.objs.size = some { cls := .type "tuple", data := .seq us.toArray } := Heap.get?_push_size _ rfl
  have ok := I1.laid (t' := s1.toks) (o := .frz { cls := .type "tuple", data := .seq us.toArray } (.tup xs)) (fun b u e => Heap.get?_push_of_some _ e) (Nat.le_refl _) ⟨g, z, us, r, ⟨_, g, rfl, _, rfl⟩⟩
  exact ⟨.ref s1.heap.objs.size, _, ok, rfl, q _ _ fr rfl⟩
theorem x_tup {x1 : Nat} (h : XA X es ms) : XE X (.Tuple es x1 pos) (tupS ms) := fun G hG => (pe_tupF (h G hG)).imp fun σ H Q q => tA_mono (keep_t q) fun vs H1 hz => by
  obtain ⟨O, ds, r, tr, rp, e, k⟩ := hz
  unfold mkTup at e
  split at e
  · rename_i hl
    cases e
    refine ⟨by rw [rp.length, sizeLine_eq]; exact hl, fun p o hp hd => k rfl _ _ (same_new hp _) (vals_tupF hp hd tr rp)⟩
  · cases e
theorem x_lst (h : XA X es ms) : XE X (.List es pos) (lstS ms) := fun G hG => (pe_lst (h G hG)).imp fun σ H Q q => tA_mono (keep_t q) fun vs H1 hz => by
  obtain ⟨O, ds, r, tr, rp, e, k⟩ := hz
  unfold mkLst at e
  split at e
  · rename_i hl
    cases e
    refine ⟨by rw [rp.length, sizeLine_eq]; exact hl, fun p hp => k rfl p [p] _ (same_new hp _) (by simpa using hp) (.lst upd_same (rp.tr (fun b u q _ => same_new hp _ b u q) fun b z => z.imp id fun y => by simp at y; subst y; exact hp))⟩
  · cases e

/-! ### what is walked -/
theorem feed_list {K : PySem.W.Frag} {a : Addr} {ds : List D} : Feed false K [] (fun O H => Rp K O H (.ref a) (.lst ds)) (Itl K a) ds where
  stop := fun O H p => by
    obtain ⟨a', xs, e, sq, r⟩ := p.lstQ
    cases e
    exact ⟨xs, sq, Nat.le_of_eq r.length⟩
  go := fun O H i p hi => by
    obtain ⟨a', xs, e, sq, r⟩ := p.lstQ
    cases e
    obtain ⟨v, ev, _⟩ := r.get (List.getElem?_eq_getElem hi)
    exact ⟨xs, v, sq, ev⟩
  yld := fun O H i x H' hi p y => by
    obtain ⟨a', xs, e, sq, r⟩ := p.lstQ
    cases e
    obtain ⟨rfl, y⟩ := y
    obtain ⟨d, ed, rv⟩ := r.getV (y xs sq)
    exact ⟨fun _ _ e => e, d, ed, .inl rv⟩
  mono := fun O H O' H' p hk ho _ => p.tr hk ho
theorem feed_tup {K : PySem.W.Frag} {a : Addr} {ds : List D} : Feed false K [] (fun O H => Rp K O H (.ref a) (.tup ds)) (Itt K a) ds where
  stop := fun O H p => by
    obtain ⟨a', xs, e, sq, r⟩ := p.tupQ
    cases e
    exact ⟨xs, sq, Nat.le_of_eq r.length⟩
  go := fun O H i p hi => by
    obtain ⟨a', xs, e, sq, r⟩ := p.tupQ
    cases e
    obtain ⟨v, ev, _⟩ := r.get (List.getElem?_eq_getElem hi)
    exact ⟨xs, v, sq, ev⟩
  yld := fun O H i x H' hi p y => by
    obtain ⟨a', xs, e, sq, r⟩ := p.tupQ
    cases e
    obtain ⟨rfl, y⟩ := y
    obtain ⟨d, ed, rv⟩ := r.getV (y xs sq)
    exact ⟨fun _ _ e => e, d, ed, .inl rv⟩
  mono := fun O H O' H' p hk ho _ => p.tr hk ho
theorem feed_own {K : PySem.W.Frag} {a : Addr} {ds : List D} : Feed false K [a] (fun O H => ∃ xs, H a = some (.lst xs) ∧ Rps K O H xs ds) (Itl K a) ds where
  stop := fun O H ⟨xs, e, r⟩ => ⟨xs, SqL.of e, Nat.le_of_eq r.length⟩
  go := fun O H i ⟨xs, e, r⟩ hi => by
    obtain ⟨v, ev, _⟩ := r.get (List.getElem?_eq_getElem hi)
    exact ⟨xs, v, SqL.of e, ev⟩
  yld := fun O H i x H' hi ⟨xs, e, r⟩ y => by
    obtain ⟨rfl, y⟩ := y
    obtain ⟨d, ed, rv⟩ := r.getV (y xs (SqL.of e))
    exact ⟨fun _ _ e => e, d, ed, .inl rv⟩
  mono := fun O H O' H' ⟨xs, e, r⟩ hk ho hz => ⟨xs, hz a (by simp) _ e, r.tr hk ho⟩
theorem feed_rng {K : PySem.W.Frag} {lo : Int} {n : Nat} : Feed false K [] (fun _ _ => True) (Itr lo n) (rngD lo n) where
  stop := fun O H _ => by show n ≤ _; simp [rngD]
  go := fun O H i _ hi => by
    have : i < n := by simpa [rngD] using hi
    exact this
  yld := fun O H i x H' hi _ y => by
    have hn : i < n := by simpa [rngD] using hi
    obtain ⟨rfl, rfl⟩ := y
    refine ⟨fun _ _ e => e, .int (lo + (i : Nat)), ?_, .inl (.int _)⟩
    unfold rngD
    rw [List.getElem?_map, List.getElem?_range hn] <;> rfl
  mono := fun _ _ _ _ _ _ _ _ => trivial
theorem Feed.weak {K : PySem.W.Frag} {Z : List Addr} {P : (Addr → Prop) → Hp → Prop} {J : It} {xs : List D} (h : Feed false K Z P J xs) : Feed true K Z P J xs :=
  ⟨h.stop, h.go, fun O H i x H' a b c => by
    obtain ⟨s, d, e, y⟩ := h.yld O H i x H' a b c
    exact ⟨s, d, e, y.elim .inl fun z => nomatch z.1⟩, h.mono⟩
theorem XI.weak {tg iter : Expr} {src : Src} (h : XI X tg iter false src) : XI X tg iter true src := fun G hG => PI.imp (h G hG) fun σ H R q => by
  obtain ⟨O, φ, ρ, xs, o, ρ', h1, h2, h3⟩ := q
  exact ⟨O, φ, ρ, xs, o, ρ', h1, h2, fun J H' O' φ' Z P a b c d e => h3 J H' O' φ' Z P a b c d.weak e⟩
/-- a list or a tuple, as it comes -/
theorem pi_seq {tg l : Expr} {tl : TE} (hl : PE X l tl) : PI X tg l (fun σ H R => tl σ H fun x H1 => ∃ a, x = .ref a ∧ (((∃ xs, SqL X.K H1 a xs) ∧ R (Itl X.K a) H1) ∨ ((∃ xs, SqT X.K H1 a xs) ∧ R (Itt X.K a) H1))) := by
  refine ⟨fun pins s σ H R I h => thn (hl.run pins s σ H _ I h) fun v s1 hx => ?_⟩
  obtain ⟨x, H1, I1, r1, a, rfl, q⟩ := hx
  cases r1
  have fp : ∀ b ∈ [s1.heap.objs.size], FpOk X pins H1 b := fun b hb => by
    obtain rfl : b = s1.heap.objs.size := by simpa using hb
    exact I1.fpOk (Nat.le_refl _) (I1.hok.fresh (Nat.le_refl _))
  rcases q with ⟨⟨xs, sq⟩, q⟩ | ⟨⟨xs, sq⟩, q⟩
  · obtain ⟨its, _, pl, _⟩ := I1.list sq
    exact wpAny_pyIter_list pl.isList ⟨_, [s1.heap.objs.size], _, Itl X.K a, H1, rfl, I1.kept (t' := s1.toks) fun b o e => Heap.get?_push_of_some _ e, turn_list a _, ⟨_, Heap.get?_push_size _ rfl, rfl, rfl⟩, fp, q⟩
  · obtain ⟨its, _, pl, _⟩ := I1.tuple sq
    exact wpAny_pyIter_tuple (show s1.heap.IsTuple a its.toArray from pl) ⟨_, [s1.heap.objs.size], _, Itt X.K a, H1, rfl, I1.kept (t' := s1.toks) fun b o e => Heap.get?_push_of_some _ e, turn_tuple a _, ⟨_, Heap.get?_push_size _ rfl, rfl, rfl⟩, fp, q⟩
theorem src_fin {K : PySem.W.Frag} {O : Addr → Prop} {H : Hp} {v : V} {d : D} {l : List D} (r : Rp K O H v d) (e : seqOf d = some l) :
    ∃ a, v = .ref a ∧ (((∃ xs, SqL K H a xs) ∧ Rp K O H (.ref a) (.lst l)) ∨ ((∃ xs, SqT K H a xs) ∧ Rp K O H (.ref a) (.tup l))) := by
  cases d with
  | lst l' =>
    cases e
    obtain ⟨a, xs, rfl, sq, _⟩ := id r.lstQ
    exact ⟨a, rfl, .inl ⟨⟨xs, sq⟩, r⟩⟩
  | tup l' =>
    cases e
    obtain ⟨a, xs, rfl, sq, _⟩ := id r.tupQ
    exact ⟨a, rfl, .inr ⟨⟨xs, sq⟩, r⟩⟩
  | _ => cases e
theorem i_seq {tg l : Expr} (h : XE X l m) : XI X tg l false (srcV m) := fun G hG => PI.imp (pi_seq (h G hG)) fun σ H R q => by
  obtain ⟨O, φ, ρ, xs, o, ρ', h1, h2, h3⟩ := q
  simp only [srcV, Option.bind_eq_some_iff, Prod.exists] at h2
  obtain ⟨r, ρ1, e1, e2⟩ := h2
  refine ⟨O, φ, ρ, r, ρ1, h1, e1, fun v H1 O1 φ1 s1 t1 q1 => ?_⟩
  have fin : ∀ {O2 : Addr → Prop} {d : D}, St G O2 φ1 σ ρ1 H1 → Tr φ ρ O H φ1 ρ1 O2 H1 → Rp G.K O2 H1 v d → seqOf d = some xs → o = none → ρ1 = ρ' → ∃ a, v = .ref a ∧ (((∃ xs, SqL X.K H1 a xs) ∧ R (Itl X.K a) H1) ∨ ((∃ xs, SqT X.K H1 a xs) ∧ R (Itt X.K a) H1)) := fun {O2 d} s2 t2 rd ed eo ep => by
    subst ep eo
    rw [← hG]
    obtain ⟨a, rfl, ⟨sq, r'⟩ | ⟨sq, r'⟩⟩ := src_fin rd ed
    · exact ⟨a, rfl, .inl ⟨sq, h3 _ H1 O2 φ1 [] _ s2 t2 r' feed_list rfl⟩⟩
    · exact ⟨a, rfl, .inr ⟨sq, h3 _ H1 O2 φ1 [] _ s2 t2 r' feed_tup rfl⟩⟩
  cases r with
  | val d =>
    simp only [Option.bind_eq_some_iff, Option.some.injEq, Prod.mk.injEq] at e2
    obtain ⟨l', e3, rfl, rfl, rfl⟩ := e2
    exact fin s1 t1 q1 e3 rfl rfl
  | fr d =>
    simp only [Option.bind_eq_some_iff, Option.some.injEq, Prod.mk.injEq] at e2
    obtain ⟨l', e3, rfl, rfl, rfl⟩ := e2
    obtain ⟨O2, s2, t2, q2⟩ := force_ok (d := d) (ρ' := ρ1) s1 t1 q1 (by
      unfold force
      cases d with
      | lst l => rfl
      | tup l =>
        obtain ⟨a, fp, _, z, _⟩ := q1
        cases z
      | _ => cases e3)
    exact fin s2 t2 q2 e3 rfl rfl
  | sl i =>
    dsimp only at e2
    split at e2
    · rename_i p l' ei
      cases e2
      obtain ⟨a, ea, ra, qo⟩ := s1.ow i p _ ei
      have q1 : σ[i]? = some (some v) := q1
      rw [ea] at q1
      cases q1
      refine ⟨a, rfl, .inl ?_⟩
      rw [← hG]
      generalize hfp : φ1 i = fp at ra
      cases ra with
      | lst h0 r0 =>
        exact ⟨⟨_, SqL.of h0⟩, h3 _ H1 O1 φ1 [a] _ s1 t1 ⟨_, h0, r0⟩ feed_own ⟨⟨p, _, ei⟩, fun b hb => by rw [hfp]; exact hb⟩⟩
    · cases e2
theorem inB_ok {j : Int} (h : inB j = true) : -(2 ^ 62) ≤ j ∧ j < 2 ^ 62 := by
  unfold inB big at h
  rw [Bool.and_eq_true, decide_eq_true_eq, decide_eq_true_eq] at h
  have e62 : (2 : Int) ^ 62 = 4611686018427387904 := by decide
  rw [e62]
  exact h
theorem and_ok {i j : Int} (h : (inB i && inB j) = true) : (-(2 ^ 62) ≤ i ∧ i < 2 ^ 62) ∧ -(2 ^ 62) ≤ j ∧ j < 2 ^ 62 := by
  rw [Bool.and_eq_true] at h
  exact ⟨inB_ok h.1, inB_ok h.2⟩
theorem evs_len : ∀ {ms : List M} {ρ ρ' : Rho} {rs : List R}, evs ms ρ = some (rs, ρ') → rs.length = ms.length
  | [], _, _, _, h => by cases h; rfl
  | m :: ms, ρ, ρ', rs, h => by
    simp only [evs, Option.bind_eq_some_iff, Option.some.injEq, Prod.exists] at h
    obtain ⟨r, ρ1, e1, r', e2, rs1, ρ2, e3, e4⟩ := h
    cases e4
    rw [List.length_cons, List.length_cons, evs_len e3]
theorem i_rng1 {tg a : Expr} {p : Pos} (hg : Gl X "range") (hm : X.mg "range" = none) (ha : XA X [a] ms) (hml : ms.length = 1 := by rfl) (hs : starEach [a] X.env = [(false, eval a X.env)] := by rfl) : XI X tg (.Call (.Name "range" p) [a] [] pos) false (srcK rngF ms) := fun G hG =>
  PI.imp (pi_range1 hg hm (ha G hG) hs) fun σ H R q => by
    obtain ⟨O, φ, ρ, xs, o, ρ', h1, h2, h3⟩ := q
    simp only [srcK, Option.bind_eq_some_iff, Prod.exists, Option.some.injEq, Prod.mk.injEq] at h2
    obtain ⟨rs, ρ1, e1, ds, ρ2, e2, l, e3, rfl, rfl, rfl⟩ := h2
    refine ⟨O, φ, ρ, rs, ρ1, h1, e1, fun vs H1 O1 φ1 s1 t1 q1 => ?_⟩
    obtain ⟨O2, s2, t2, q2⟩ := forces_ok s1 q1 e2
    have ln := q2.length
    have lv : vs.length = 1 := by
      have a1 := q1.length
      have a2 := evs_len e1
      omega
    unfold rngF at e3
    split at e3
    · rename_i j
      split at e3
      · rename_i hj
        cases e3
        cases q2 with
        | cons r0 r1 =>
          cases r0
          cases r1
          have b := inB_ok hj
          exact ⟨j, rfl, b.1, b.2, h3 _ H1 O2 φ1 [] _ s2 (t1.trans t2) trivial feed_rng rfl⟩
      · cases e3
    · rename_i i j
      rw [List.length_cons, List.length_cons, List.length_nil] at ln
      omega
    · cases e3
theorem i_rng2 {tg a b : Expr} {p : Pos} (hg : Gl X "range") (hm : X.mg "range" = none) (ha : XA X [a, b] ms) (hml : ms.length = 2 := by rfl) (hs : starEach [a, b] X.env = [(false, eval a X.env), (false, eval b X.env)] := by rfl) (hs2 : starEach [b] X.env = [(false, eval b X.env)] := by rfl)
    (hpl : (backTo pos (starEach [b] X.env)).any (·.1) = false := by rfl) : XI X tg (.Call (.Name "range" p) [a, b] [] pos) false (srcK rngF ms) := fun G hG =>
  PI.imp (pi_range2 hg hm (ha G hG) hs hs2) fun σ H R q => by
    obtain ⟨O, φ, ρ, xs, o, ρ', h1, h2, h3⟩ := q
    simp only [srcK, Option.bind_eq_some_iff, Prod.exists, Option.some.injEq, Prod.mk.injEq] at h2
    obtain ⟨rs, ρ1, e1, ds, ρ2, e2, l, e3, rfl, rfl, rfl⟩ := h2
    refine ⟨O, φ, ρ, rs, ρ1, h1, e1, fun vs H1 O1 φ1 s1 t1 q1 => ?_⟩
    obtain ⟨O2, s2, t2, q2⟩ := forces_ok s1 q1 e2
    have ln := q2.length
    have lv : vs.length = 2 := by
      have a1 := q1.length
      have a2 := evs_len e1
      omega
    unfold rngF at e3
    split at e3
    · rw [List.length_cons, List.length_nil] at ln
      omega
    · rename_i i j
      split at e3
      · rename_i hj
        cases e3
        cases q2 with
        | cons r0 r1 =>
          cases r0
          cases r1 with
          | cons r2 r3 =>
            cases r2
            cases r3
            have b := and_ok hj
            exact ⟨i, j, rfl, ⟨b.1.1, b.1.2, b.2.1, b.2.2⟩, h3 _ H1 O2 φ1 [] _ s2 (t1.trans t2) trivial feed_rng rfl⟩
      · cases e3
    · cases e3

/-! ### a list that is changed -/
theorem mut_pre {i : Nat} {f : List D → List D → Option (D × List D)} {σ : L2.St} {H : Hp} {Q : VK} (h : tM G (mutS i f ms) σ H Q) : ∃ a xs0, σ[i]? = some (some (.ref a)) ∧ H a = some (.lst xs0) ∧
    tA G ms σ H fun vs H1 => ∃ (O : Addr → Prop) (xs : List V) (l ds l' : List D) (d : D), O a ∧ H1 a = some (.lst xs) ∧ Rps G.K O H1 xs l ∧ Rps G.K O H1 vs ds ∧ f l ds = some (d, l') ∧
      ∀ xs' v, Rps G.K O H1 xs' l' → Rp G.K O H1 v d → Q v (upd H1 a (.lst xs')) := by
  obtain ⟨O, φ, ρ, r, ρ', h1, h2, h3⟩ := h
  unfold mutS at h2
  split at h2
  case isFalse => cases h2
  case isTrue hw =>
    simp only [Option.bind_eq_some_iff, Prod.exists] at h2
    obtain ⟨rs, ρ1, e1, ds, ρ2, e2, h2⟩ := h2
    split at h2
    · rename_i p l ei
      simp only [Option.bind_eq_some_iff, Prod.exists, Option.some.injEq, Prod.mk.injEq] at h2
      obtain ⟨d, l', e3, rfl, rfl⟩ := h2
      -- at the start there stands a list
      cases e0 : ρ[i]? with
      | none => rw [e0] at hw; cases hw
      | some s0 =>
        cases s0 with
        | ow p0 d0 =>
          obtain ⟨a, ea, ra, _⟩ := h1.ow i p0 d0 e0
          have : ∃ xs0, H a = some (.lst xs0) := by
            generalize φ i = fp at ra
            cases ra with
            | lst h0 _ => exact ⟨_, h0⟩
            | dct _ _ => rw [e0] at hw; cases hw
          obtain ⟨xs0, hx0⟩ := this
          refine ⟨a, xs0, ea, hx0, O, φ, ρ, rs, ρ1, h1, e1, fun vs H1 O1 φ1 s1 t1 q1 => ?_⟩
          obtain ⟨O2, s2, t2, q2⟩ := forces_ok s1 q1 e2
          obtain ⟨a', ea', ra', qo⟩ := s2.ow i p _ ei
          rw [ea] at ea'
          cases ea'
          generalize hfp : φ1 i = fp at ra' qo
          cases ra' with
          | lst h0 r0 =>
            refine ⟨O2, _, l, ds, l', d, qo a (by simp), h0, r0, q2, e3, fun xs' v rx rv => ?_⟩
            have mv : ∀ b o, H1 b = some o → ¬ O2 b → (upd H1 a (.lst xs')) b = some o := fun b o e n => by rw [upd_ne fun z => n (by rw [z]; exact qo a (by simp))]; exact e
            obtain ⟨s3, t3⟩ := s2.upd (H1 := upd H1 a (.lst xs')) (d' := .lst l') ei (fun b o e n => by
                rw [hfp] at n
                rw [upd_ne (by simpa using n)]
                exact e)
              (fun b hb => by
                rw [hfp] at hb
                obtain rfl : b = a := by simpa using hb
                rw [upd_same]
                exact fun z => nomatch z) ea (by rw [hfp]; exact .lst upd_same (rx.tr mv fun _ z => .inl z))
            exact h3 v _ O2 φ1 s3 ((t1.trans t2).trans t3) (rv.tr mv fun _ z => .inl z)
        | _ => rw [e0] at hw; cases hw
    · cases h2
theorem x_mut {i : Nat} {f : List D → List D → Option (D × List D)} {id : String} {name x : Str} {p apos : Pos} {r : V → List V → Hp → VK → Prop} (slot : Slot "list" name id) (hty : typeOf (.builtin id) = pure (.type "method_descriptor")) (hmt : MtR X id r)
    (hr : ∀ (a : Addr) (O : Addr → Prop) (xs vs : List V) (l ds l' : List D) (d : D) (H : Hp) (Q : VK), H a = some (.lst xs) → Rps X.K O H xs l → Rps X.K O H vs ds → f l ds = some (d, l') → (∀ xs' v, Rps X.K O H xs' l' → Rp X.K O H v d → Q v (upd H a (.lst xs'))) → r (.ref a) vs H Q)
    (ha : XA X (e :: es) ms) (hN : X.N[i]? = some x := by rfl) (hv : Vis X.env.scope x := by first | exact Or.inl rfl | exact Or.inr (Or.inl rfl) | exact Or.inr (Or.inr rfl)) (hd : (x == ("__debug__" : Str)) = false := by decide) (hcd : (x == ("__classdict__" : Str)) = false := by decide)
    (hbase : attributeBase (.Name x p) name X.env (eval (.Name x p) X.env) = eval (.Name x p) X.env := by rfl)
    (hfew : ((backTo pos (starEach (e :: es) X.env)).all (fun x => !x.1) && (backToKw pos (keywordEach [] X.env)).all (fun x => x.1.isSome) && decide ((e :: es).length + ([] : List Keyword).length + (if ([] : List Keyword).isEmpty then 0 else 1) < 30)) = true := by rfl)
    (hline : (apos.endLine == pos.line) = true := by rfl) (hs : starEach (e :: es) X.env = (false, eval e X.env) :: starEach es X.env := by rfl) (hplain : (backTo pos (starEach es X.env)).any (·.1) = false := by rfl) :
    XE X (.Call (.Attribute (.Name x p) name apos) (e :: es) [] pos) (mutS i f ms) := fun G hG =>
  (pe_bm PySem.F.plainAttrs_list slot hty hmt (pe_var hN hv hd hcd) (ha G hG) hbase hfew hline hs hplain).imp fun σ H Q h => by
    obtain ⟨a, xs0, ea, h0, q⟩ := mut_pre h
    refine ⟨_, ea, .inl ⟨rfl, xs0, SqL.of h0⟩, tA_mono q fun vs H1 hz => ?_⟩
    obtain ⟨O, xs, l, ds, l', d, hO, h1, r1, r2, e1, k⟩ := hz
    rw [hG] at r1 r2
    exact hr a O xs vs l ds l' d H1 Q h1 r1 r2 e1 fun xs' v q1 q2 => k xs' v (by rw [hG]; exact q1) (by rw [hG]; exact q2)
theorem x_mut0 {i : Nat} {f : List D → List D → Option (D × List D)} {id : String} {name x : Str} {p apos : Pos} {r : V → List V → Hp → VK → Prop} (slot : Slot "list" name id) (hty : typeOf (.builtin id) = pure (.type "method_descriptor")) (hmt : MtR X id r)
    (hr : ∀ (a : Addr) (O : Addr → Prop) (xs vs : List V) (l ds l' : List D) (d : D) (H : Hp) (Q : VK), H a = some (.lst xs) → Rps X.K O H xs l → Rps X.K O H vs ds → f l ds = some (d, l') → (∀ xs' v, Rps X.K O H xs' l' → Rp X.K O H v d → Q v (upd H a (.lst xs'))) → r (.ref a) vs H Q)
    (hN : X.N[i]? = some x := by rfl) (hv : Vis X.env.scope x := by first | exact Or.inl rfl | exact Or.inr (Or.inl rfl) | exact Or.inr (Or.inr rfl)) (hd : (x == ("__debug__" : Str)) = false := by decide) (hcd : (x == ("__classdict__" : Str)) = false := by decide)
    (hbase : attributeBase (.Name x p) name X.env (eval (.Name x p) X.env) = eval (.Name x p) X.env := by rfl) (hline : (apos.endLine == pos.line) = true := by rfl) :
    XE X (.Call (.Attribute (.Name x p) name apos) [] [] pos) (mutS i f []) := fun G hG =>
  (pe_bm0 PySem.F.plainAttrs_list slot hty hmt (pe_var hN hv hd hcd) hbase hline).imp fun σ H Q h => by
    obtain ⟨a, xs0, ea, h0, q⟩ := mut_pre h
    refine ⟨_, ea, .inl ⟨rfl, xs0, SqL.of h0⟩, ?_⟩
    have hz := tA_nil q
    obtain ⟨O, xs, l, ds, l', d, hO, h1, r1, r2, e1, k⟩ := hz
    rw [hG] at r1 r2
    exact hr a O xs [] l ds l' d H Q h1 r1 r2 e1 fun xs' v q1 q2 => k xs' v (by rw [hG]; exact q1) (by rw [hG]; exact q2)
theorem r_append {K : PySem.W.Frag} (a : Addr) (O : Addr → Prop) (xs vs : List V) (l ds l' : List D) (d : D) (H : Hp) (Q : VK) (h : H a = some (.lst xs)) (r1 : Rps K O H xs l) (r2 : Rps K O H vs ds) (e : fAppend l ds = some (d, l'))
    (k : ∀ xs' v, Rps K O H xs' l' → Rp K O H v d → Q v (upd H a (.lst xs'))) : rAppend (.ref a) vs H Q := by
  unfold fAppend at e
  split at e
  · rename_i d0
    split at e
    · rename_i hl
      cases e
      cases r2 with
      | cons q1 q2 =>
        cases q2
        exact ⟨a, xs, _, rfl, rfl, h, by rw [r1.length, sizeLine_eq]; exact hl, k _ _ (r1.append (.cons q1 .nil)) .non⟩
    · cases e
  · cases e
theorem ix_eq (n : Nat) (i : Int) : ixOf n i = ixN n i := rfl
theorem r_pop {K : PySem.W.Frag} (a : Addr) (O : Addr → Prop) (xs vs : List V) (l ds l' : List D) (d : D) (H : Hp) (Q : VK) (h : H a = some (.lst xs)) (r1 : Rps K O H xs l) (r2 : Rps K O H vs ds) (e : fPop l ds = some (d, l'))
    (k : ∀ xs' v, Rps K O H xs' l' → Rp K O H v d → Q v (upd H a (.lst xs'))) : rPopAt (.ref a) vs H Q := by
  unfold fPop at e
  split at e
  · rename_i i
    split at e
    case isFalse => cases e
    case isTrue hz =>
    simp only [Option.bind_eq_some_iff, Option.some.injEq, Prod.mk.injEq] at e
    obtain ⟨j, e1, x, e2, rfl, rfl⟩ := e
    cases r2 with
    | cons q1 q2 =>
      cases q1
      cases q2
      rw [ix_eq, ← r1.length] at e1
      obtain ⟨b1, b2, b3, b4⟩ := ixN_seq e1
      obtain ⟨v, ev, rv⟩ := r1.get e2
      have hl := r1.length
      unfold lim at hz
      exact ⟨a, xs, i, j, v, rfl, rfl, h, by omega, by omega, b1, ev, k _ _ (r1.eraseIdx j) rv⟩
  · cases e
theorem r_pop0 {K : PySem.W.Frag} (a : Addr) (O : Addr → Prop) (xs vs : List V) (l ds l' : List D) (d : D) (H : Hp) (Q : VK) (h : H a = some (.lst xs)) (r1 : Rps K O H xs l) (r2 : Rps K O H vs ds) (e : fPop0 l ds = some (d, l'))
    (k : ∀ xs' v, Rps K O H xs' l' → Rp K O H v d → Q v (upd H a (.lst xs'))) : rPop (.ref a) vs H Q := by
  unfold fPop0 at e
  split at e
  · simp only [Option.bind_eq_some_iff, Option.some.injEq, Prod.mk.injEq] at e
    obtain ⟨x, e2, rfl, rfl⟩ := e
    cases r2
    obtain ⟨v, ev, rv⟩ := r1.get e2
    rw [← r1.length] at ev
    refine ⟨a, xs, v, rfl, rfl, h, ev, k _ _ ?_ rv⟩
    rw [List.dropLast_eq_take, List.dropLast_eq_take, ← r1.length]
    exact r1.take _
  · cases e
theorem x_ext {i : Nat} {name x : Str} {p apos : Pos} {e : Expr} {m : M} (he : XE X e m) (hname : name = "extend") (hN : X.N[i]? = some x := by rfl) (hv : Vis X.env.scope x := by first | exact Or.inl rfl | exact Or.inr (Or.inl rfl) | exact Or.inr (Or.inr rfl)) (hd : (x == ("__debug__" : Str)) = false := by decide) (hcd : (x == ("__classdict__" : Str)) = false := by decide)
    (hbase : attributeBase (.Name x p) name X.env (eval (.Name x p) X.env) = eval (.Name x p) X.env := by rfl)
    (hfew : ((backTo pos (starEach [e] X.env)).all (fun x => !x.1) && (backToKw pos (keywordEach [] X.env)).all (fun x => x.1.isSome) && decide ([e].length + ([] : List Keyword).length + (if ([] : List Keyword).isEmpty then 0 else 1) < 30)) = true := by rfl)
    (hline : (apos.endLine == pos.line) = true := by rfl) (hs : starEach [e] X.env = (false, eval e X.env) :: starEach [] X.env := by rfl) (hplain : (backTo pos (starEach [] X.env)).any (·.1) = false := by rfl) :
    XE X (.Call (.Attribute (.Name x p) name apos) [e] [] pos) (extS i m) := fun G hG => by
  subst hname
  refine (pe_bm PySem.F.plainAttrs_list PySem.F.slot_list_extend PySem.F.type_list_extend mt_extend (pe_var hN hv hd hcd) (pa_cons (he G hG) pa_nil hs) hbase hfew hline hs hplain).imp fun σ H Q h => ?_
  obtain ⟨O, φ, ρ, r, ρ', h1, h2, h3⟩ := h
  unfold extS at h2
  split at h2
  case isFalse => cases h2
  case isTrue hw =>
    simp only [Option.bind_eq_some_iff, Prod.exists] at h2
    obtain ⟨r1, ρ1, e1, h2⟩ := h2
    cases e0 : ρ[i]? with
    | none => rw [e0] at hw; cases hw
    | some s0 =>
      cases s0 with
      | ow p0 d0 =>
        obtain ⟨a, ea, ra, _⟩ := h1.ow i p0 d0 e0
        have : ∃ xs0, H a = some (.lst xs0) := by
          generalize φ i = fp at ra
          cases ra with
          | lst h0 _ => exact ⟨_, h0⟩
          | dct _ _ => rw [e0] at hw; cases hw
        obtain ⟨xs0, hx0⟩ := this
        refine ⟨_, ea, .inl ⟨rfl, xs0, SqL.of hx0⟩, O, φ, ρ, r1, ρ1, h1, e1, fun v H1 O1 φ1 s1 t1 q1 => ?_⟩
        split at h2
        · rename_i k q l ei
          split at h2
          · rename_i hl
            cases h2
            obtain ⟨a2, ea2, ra2, qo⟩ := s1.ow i q _ ei
            rw [ea] at ea2
            cases ea2
            obtain ⟨b, fb, rfl, rb, fo⟩ := q1
            generalize hfp : φ1 i = fp at ra2 qo
            cases ra2 with
            | lst h0 r0 =>
              rename_i xs1
              cases rb with
              | lst g0 g1 =>
                rename_i xs2
                refine ⟨a, b, _, _, rfl, rfl, h0, g0, by rw [r0.length, g1.length, sizeLine_eq]; exact hl, ?_⟩
                have oa : O1 a := qo a (by simp)
                obtain ⟨s3, t3⟩ := s1.upd (H1 := upd H1 a (.lst (xs1 ++ xs2))) (d' := .lst (l ++ k)) ei (fun b o e n => by
                    rw [hfp] at n
                    rw [upd_ne (by simpa using n)]
                    exact e)
                  (fun b hb => by
                    rw [hfp] at hb
                    obtain rfl : b = a := by simpa using hb
                    rw [upd_same]
                    exact fun z => nomatch z) ea (by
                    rw [hfp]
                    exact .lst upd_same ((r0.append g1).tr (fun b o e n => by rw [upd_ne fun z => n (by rw [z]; exact oa)]; exact e) fun _ z => .inl z))
                exact h3 .non _ O1 φ1 s3 (t1.trans t3) Rp.non
          · cases h2
        · cases h2
      | _ => rw [e0] at hw; cases hw
/-- o[e] = v -/
theorem s_setitem {i : Nat} {x : Str} {p tpos : Pos} {ix v : Expr} {mi mv : M} (hv : XE X v mv) (hi : XE X ix mi) (hN : X.N[i]? = some x := by rfl) (hvis : Vis X.env.scope x := by first | exact Or.inl rfl | exact Or.inr (Or.inl rfl) | exact Or.inr (Or.inr rfl)) (hd : (x == ("__debug__" : Str)) = false := by decide) (hcd : (x == ("__classdict__" : Str)) = false := by decide)
    (ha : ∀ u, assign (.Subscript (.Name x p) ix tpos) X.env u = (do
      let ov ← holding [u] (eval (.Name x p) X.env)
      let iv ← holding [u, ov] (eval ix X.env)
      standAt tpos
      holding [u, ov, iv] (setItem ov iv u)
      release [u, ov, iv] []) := by intro _; rfl)
    (hs : swapsWithSole [.Subscript (.Name x p) ix tpos] v pos.line X.env = pure false := by rfl) (hw : swappedStores [.Subscript (.Name x p) ix tpos] v X.env = pure none := by rfl) :
    XS X (.Assign [.Subscript (.Name x p) ix tpos] v pos) (setS i mi mv) := fun G hG =>
  (ps_asg (hv G hG) (pg_sub (pe_var hN hvis hd hcd) (hi G hG) set_list ha) hs hw).imp fun D σ H h => by
    obtain ⟨O, φ, ρ, fl, ρ', h1, h2, h3⟩ := h
    unfold setS at h2
    split at h2
    case isFalse => cases h2
    case isTrue hw2 =>
    simp only [Option.bind_eq_some_iff, Prod.exists] at h2
    obtain ⟨rs, ρ1, e1, ds, ρ2, e2, h2⟩ := h2
    cases e0 : ρ[i]? with
    | none => rw [e0] at hw2; cases hw2
    | some s0 =>
      cases s0 with
      | ow p0 d0 =>
        obtain ⟨a, ea, _, _⟩ := h1.ow i p0 d0 e0
        have A : tA G [mv, mi] σ H fun vs H1 => ∀ x y, vs = [x, y] → rSetL (.ref a) y x H1 (fun H4 => D.nx σ H4) := by
          refine ⟨O, φ, ρ, rs, ρ1, h1, e1, fun vs H1 O1 φ1 s1 t1 q1 => ?_⟩
          obtain ⟨O2, s2, t2, q2⟩ := forces_ok s1 q1 e2
          split at h2
          · rename_i p1 l d k ei
            simp only [Option.bind_eq_some_iff, Option.some.injEq, Prod.mk.injEq] at h2
            obtain ⟨j, e3, rfl, rfl⟩ := h2
            obtain ⟨a2, ea2, ra, qo⟩ := s2.ow i p1 _ ei
            rw [ea] at ea2
            cases ea2
            intro x y exy
            subst exy
            cases q2 with
            | cons b1 b2 =>
              cases b2 with
              | cons b3 b4 =>
                cases b3
                generalize hfp : φ1 i = fp at ra qo
                cases ra with
                | lst h0 r0 =>
                  rename_i xs1
                  refine ⟨a, _, k, j, rfl, rfl, h0, by rw [← ix_eq, r0.length]; exact e3, ?_⟩
                  have oa : O2 a := qo a (by simp)
                  obtain ⟨s3, t3⟩ := s2.upd (H1 := upd H1 a (.lst (xs1.set j x))) (d' := .lst (l.set j d)) ei (fun b o e n => by
                      rw [hfp] at n
                      rw [upd_ne (by simpa using n)]
                      exact e)
                    (fun b hb => by
                      rw [hfp] at hb
                      obtain rfl : b = a := by simpa using hb
                      rw [upd_same]
                      exact fun z => nomatch z) ea (by
                      rw [hfp]
                      exact .lst upd_same ((Rps.set b1 j r0).tr (fun b o e n => by rw [upd_ne fun z => n (by rw [z]; exact oa)]; exact e) fun _ z => .inl z))
                  exact h3 σ _ O2 φ1 s3 ((t1.trans t2).trans t3)
          · cases h2
        refine (tA_two A).mono fun x H1 q => ⟨_, ea, q.mono fun y H2 k => k x y rfl⟩
      | _ => rw [e0] at hw2; cases hw2
end
end Al
end
section
namespace Al
open PySem PySem.Spec PyProof.Rows L2

section
variable {K : PySem.W.Frag} {O : Addr → Prop} {H : Hp} {v : V}
theorem Pk.int {i : Int} (h : Pk K O H v (.int i)) : v = .int i := by
  rcases h with h | ⟨a, fp, _, h⟩ <;> cases h; rfl
theorem Pk.bl {i : Bool} (h : Pk K O H v (.bl i)) : v = .bl i := by
  rcases h with h | ⟨a, fp, _, h⟩ <;> cases h; rfl
theorem Pk.str {i : Str} (h : Pk K O H v (.str i)) : v = .str i := by
  rcases h with h | ⟨a, fp, _, h⟩ <;> cases h; rfl
theorem Pk.non (h : Pk K O H v .non) : v = .non := by
  rcases h with h | ⟨a, fp, _, h⟩ <;> cases h; rfl
theorem Pk.rp_tup {l : List D} (h : Pk K O H v (.tup l)) : Rp K O H v (.tup l) := by
  rcases h with h | ⟨a, fp, _, h⟩
  · exact h
  · cases h
theorem Pk.tup {l : List D} (h : Pk K O H v (.tup l)) : ∃ a xs, v = .ref a ∧ SqT K H a xs ∧ Rps K O H xs l := h.rp_tup.tupQ
theorem Pk.lst {l : List D} (h : Pk K O H v (.lst l)) : ∃ a xs, v = .ref a ∧ H a = some (.lst xs) ∧ Rps K O H xs l := by
  rcases h with h | ⟨a, fp, rfl, h⟩
  · exact h.lstS
  · cases h with
    | lst h r => exact ⟨a, _, rfl, h, r⟩
theorem Pk.frz {l : List D} (h : Pk K O H v (.frz l)) : ∃ a xs, v = .ref a ∧ SqL K H a xs ∧ Rps K O H xs l := by
  rcases h with h | ⟨a, fp, rfl, h⟩
  · exact h.frzQ
  · cases h
theorem Pks.one {vs : List V} {d : D} (h : Pks K O H vs [d]) : ∃ v, vs = [v] ∧ Pk K O H v d := by
  cases h with
  | cons a r => cases r; exact ⟨_, rfl, a⟩
theorem Pks.two {vs : List V} {d e : D} (h : Pks K O H vs [d, e]) : ∃ v w, vs = [v, w] ∧ Pk K O H v d ∧ Pk K O H w e := by
  cases h with
  | cons a r =>
    cases r with
    | cons b r => cases r; exact ⟨_, _, rfl, a, b⟩
theorem Pks.len : ∀ {vs : List V} {ds : List D}, Pks K O H vs ds → vs.length = ds.length
  | _, _, .nil => rfl
  | _, _, .cons _ r => by rw [List.length_cons, List.length_cons, Pks.len r]
theorem res_v {d : D} {Q : VK} {w : V} {r : Al.R} (k : notSl r = true → Res K O H Q r) (e : some (Al.R.val d) = some r) (h : Rp K O H w d) : Q w H := by
  cases e
  exact k rfl w H (fun _ _ e => e) h
theorem res_l {d : List D} {Q : VK} {p : Addr} {xs : List V} {r : Al.R} (k : notSl r = true → Res K O H Q r) (e : some (Al.R.fr (.lst d)) = some r) (hp : H p = none) (h : Rps K O H xs d) : Q (.ref p) (upd H p (.lst xs)) := by
  cases e
  exact k rfl p [p] _ (same_new hp _) (by simpa using hp) (.lst upd_same (h.tr (fun b u q _ => same_new hp _ b u q) fun b z => z.imp id fun y => by simp at y; subst y; exact hp))
theorem res_t {d : List D} {Q : VK} {p : Addr} {o : Obj} {xs : List V} {r : Al.R} (tr : ∀ b, O b → H b ≠ none) (k : notSl r = true → Res K O H Q r) (e : some (Al.R.val (.tup d)) = some r) (hp : H p = none) (ho : o.dict = none) (h : Rps K O H xs d) : Q (.ref p) (upd H p (.frz o (.tup xs))) := by
  cases e
  exact k rfl _ _ (same_new hp _) (vals_tupF hp ho tr h)
end

section
variable {X : Cx}
/-- an operation on two ints -/
theorem o_int {f : Value → Value → Sem Value} {C : Int → Int → Prop} {g : Int → Int → Int} {F : List D → Option Al.R} (ho : OpR X f (rI C fun i j => .int (g i j)))
    (hF : ∀ ds r, F ds = some r → ∃ i j, ds = [.int i, .int j] ∧ C i j ∧ r = .val (.int (g i j))) : OpR X f (r2 X.K F) := fun pins s σ H x y v u Q I rx ry h => by
  obtain ⟨O, ds, r, tr, p, e, k⟩ := h
  obtain ⟨i, j, rfl, c, rfl⟩ := hF ds r e
  obtain ⟨a, b, e2, p1, p2⟩ := p.two
  cases e2
  exact ho pins s σ H _ _ v u Q I rx ry ⟨i, j, p1.int, p2.int, c, res_v k rfl (.int _)⟩
theorem o_int0 {f : Value → Value → Sem Value} {g : Int → Int → V} {g' : Int → Int → D} {F : List D → Option Al.R} (ho : OpR X f (rI0 g)) (hg : ∀ K O H i j, Rp K O H (g i j) (g' i j))
    (hF : ∀ ds r, F ds = some r → ∃ i j, ds = [.int i, .int j] ∧ r = .val (g' i j)) : OpR X f (r2 X.K F) := fun pins s σ H x y v u Q I rx ry h => by
  obtain ⟨O, ds, r, tr, p, e, k⟩ := h
  obtain ⟨i, j, rfl, rfl⟩ := hF ds r e
  obtain ⟨a, b, e2, p1, p2⟩ := p.two
  cases e2
  exact ho pins s σ H _ _ v u Q I rx ry ⟨i, j, p1.int, p2.int, res_v k rfl (hg _ _ _ i j)⟩
theorem o_sub : OpR X (binaryOp .Sub) (r2 X.K fSub) := o_int0 (g' := fun i j => .int (i - j)) op_sub (fun _ _ _ _ _ => .int _) fun ds r h => by
  unfold fSub at h
  split at h
  · cases h; exact ⟨_, _, rfl, rfl⟩
  · cases h
theorem o_lt : OpR X (compareOp .Lt) (r2 X.K fLt) := o_int0 (g' := fun i j => .bl (decide (i < j))) op_lt (fun _ _ _ _ _ => .bl _) fun ds r h => by
  unfold fLt at h
  split at h
  · cases h; exact ⟨_, _, rfl, rfl⟩
  · cases h
theorem o_le : OpR X (compareOp .LtE) (r2 X.K fLe) := o_int0 (g' := fun i j => .bl (decide (i ≤ j))) op_le (fun _ _ _ _ _ => .bl _) fun ds r h => by
  unfold fLe at h
  split at h
  · cases h; exact ⟨_, _, rfl, rfl⟩
  · cases h
theorem o_gt : OpR X (compareOp .Gt) (r2 X.K fGt) := o_int0 (g' := fun i j => .bl (decide (j < i))) op_gt (fun _ _ _ _ _ => .bl _) fun ds r h => by
  unfold fGt at h
  split at h
  · cases h; exact ⟨_, _, rfl, rfl⟩
  · cases h
theorem o_ge : OpR X (compareOp .GtE) (r2 X.K fGe) := o_int0 (g' := fun i j => .bl (decide (j ≤ i))) op_ge (fun _ _ _ _ _ => .bl _) fun ds r h => by
  unfold fGe at h
  split at h
  · cases h; exact ⟨_, _, rfl, rfl⟩
  · cases h
theorem o_div : OpR X (binaryOp .FloorDiv) (r2 X.K fDiv) := o_int (C := CDiv) (g := fun i j => i / j) op_fdiv fun ds r h => by
  unfold fDiv at h
  split at h
  · split at h
    · rename_i c
      cases h; exact ⟨_, _, rfl, c, rfl⟩
    · cases h
  · cases h
theorem o_mod : OpR X (binaryOp .Mod) (r2 X.K fMod) := o_int (C := fun _ j => 0 < j) (g := fun i j => i % j) op_mod fun ds r h => by
  unfold fMod at h
  split at h
  · split at h
    · rename_i c
      cases h; exact ⟨_, _, rfl, c, rfl⟩
    · cases h
  · cases h
theorem o_pow : OpR X (binaryOp .Pow) (r2 X.K fPow) := o_int (C := CPow) (g := fun i j => i ^ j.toNat) op_pow fun ds r h => by
  unfold fPow at h
  split at h
  · split at h
    · rename_i c
      cases h; exact ⟨_, _, rfl, c, rfl⟩
    · cases h
  · cases h
theorem o_neg : UnR X (unaryOp .USub) (fun x H Q => rOp X.K fNeg [x] H Q) := fun pins s σ H x v Q I rx h => by
  obtain ⟨O, ds, r, tr, p, e, k⟩ := h
  unfold fNeg at e
  split at e
  · rename_i i
    obtain ⟨a, e2, p1⟩ := p.one
    cases e2
    exact un_neg pins s σ H _ v Q I rx ⟨i, p1.int, res_v k e (.int _)⟩
  · cases e
/-- tuple + tuple, the objects known -/
theorem op_catF : OpR X (binaryOp .Add) (fun x y H Q => ∃ a b xs ys, x = .ref a ∧ y = .ref b ∧ SqT X.K H a xs ∧ SqT X.K H b ys ∧ xs.length + ys.length ≤ sizeLine ∧
    (xs = [] → Q (.ref b) H) ∧ (xs ≠ [] → ys = [] → Q (.ref a) H) ∧ (xs ≠ [] → ys ≠ [] → ∀ p o, H p = none → o.dict = none → Q (.ref p) (upd H p (.frz o (.tup (xs ++ ys)))))) := fun pins s σ H x y v u Q I rx ry h => by
  obtain ⟨a, b, xs, ys, rfl, rfl, ha, hb, hz, q0, q1, q2⟩ := h
  cases rx
  cases ry
  obtain ⟨its, r1, p1, _⟩ := I.tuple ha
  obtain ⟨its2, r2, p2, _⟩ := I.tuple hb
  by_cases hx : xs = []
  · subst hx
    cases r1
    exact cat_tup0 p1 p2 ⟨.ref b, H, I, rfl, q0 rfl⟩
  · refine HT.cat_tup p1 p2 (fun z => hx (r1.nil_iff.mp z)) (fun z => ⟨.ref a, H, I, rfl, q1 hx (r2.nil_iff.mp z)⟩) (fun z => ?_) (by rw [← r1.length, ← r2.length]; exact hz)
    have hy : ys ≠ [] := fun w => z (r2.nil_iff.mpr w)
    have g : (s.heap.push { cls := .type "tuple", data := .seq (its ++ its2).toArray }).get? s.heap.objs.size = some { cls := .type "tuple", data := .seq (its ++ its2).toArray } := Heap.get?_push_size _ rfl
    have ok := I.laid (t' := s.toks) (o := .frz { cls := .type "tuple", data := .seq (its ++ its2).toArray } (.tup (xs ++ ys))) (fun b u e => Heap.get?_push_of_some _ e) (Nat.le_refl _) ⟨g, by rw [List.length_append]; exact hz, _, r1.append r2, ⟨_, g, rfl, _, rfl⟩⟩
    exact ⟨.ref s.heap.objs.size, _, ok, rfl, q2 hx hy _ _ (I.hok.fresh (Nat.le_refl _)) rfl⟩
theorem o_add : OpR X (binaryOp .Add) (r2 X.K fAdd) := fun pins s σ H x y v u Q I rx ry h => by
  obtain ⟨O, ds, r, tr, p, e, k⟩ := h
  unfold fAdd at e
  split at e
  · rename_i i j
    obtain ⟨a, b, e2, p1, p2⟩ := p.two
    cases e2
    exact op_add pins s σ H _ _ v u Q I rx ry ⟨i, j, p1.int, p2.int, res_v k e (.int _)⟩
  · rename_i l1 l2
    split at e
    · rename_i hl
      obtain ⟨x0, y0, e2, p1, p2⟩ := p.two
      cases e2
      have q1 := p1.rp_tup
      have q2 := p2.rp_tup
      obtain ⟨a, xs, rfl, sa, ra⟩ := p1.tup
      obtain ⟨b, ys, rfl, sb, rb⟩ := p2.tup
      have n1 := ra.length
      have n2 := rb.length
      refine op_catF pins s σ H _ _ v u Q I rx ry ⟨a, b, xs, ys, rfl, rfl, sa, sb, by rw [n1, n2, sizeLine_eq]; exact hl, fun z => ?_, fun _ z => ?_, fun _ _ p o hp ho => res_t tr k e hp ho (ra.append rb)⟩
      · subst z
        have : l1 = [] := List.eq_nil_of_length_eq_zero n1.symm
        subst this
        exact res_v k e q2
      · subst z
        have : l2 = [] := List.eq_nil_of_length_eq_zero n2.symm
        subst this
        rw [List.append_nil] at e
        exact res_v k e q1
    · cases e
  · rename_i l1 l2
    split at e
    · rename_i hl
      obtain ⟨x0, y0, e2, p1, p2⟩ := p.two
      cases e2
      obtain ⟨a, xs, rfl, sa, ra⟩ := p1.lst
      obtain ⟨b, ys, rfl, sb, rb⟩ := p2.lst
      exact op_cat pins s σ H _ _ v u Q I rx ry ⟨a, b, xs, ys, rfl, rfl, sa, sb, by rw [ra.length, rb.length, sizeLine_eq]; exact hl, fun p hp => res_l k e hp (ra.append rb)⟩
    · cases e
  · rename_i l1 l2
    split at e
    · rename_i hl
      obtain ⟨x0, y0, e2, p1, p2⟩ := p.two
      cases e2
      exact op_add_str pins s σ H _ _ v u Q I rx ry ⟨l1, l2, p1.str, p2.str, by rw [sizeLine_eq]; exact hl, res_v k e (.str _)⟩
    · cases e
  · cases e
theorem o_mul : OpR X (binaryOp .Mult) (r2 X.K fMul) := fun pins s σ H x y v u Q I rx ry h => by
  obtain ⟨O, ds, r, tr, p, e, k⟩ := h
  unfold fMul at e
  split at e
  · rename_i i j
    split at e
    · rename_i hb
      obtain ⟨a, b, e2, p1, p2⟩ := p.two
      cases e2
      refine op_mul pins s σ H _ _ v u Q I rx ry ⟨i, j, p1.int, p2.int, ?_, res_v k e (.int _)⟩
      simp only [b64, Bool.or_eq_true, Bool.and_eq_true, decide_eq_true_eq] at hb
      exact hb
    · cases e
  · rename_i l j
    split at e
    · rename_i hb
      obtain ⟨a, b, e2, p1, p2⟩ := p.two
      cases e2
      obtain ⟨a, xs, rfl, sa, ra⟩ := p1.lst
      simp only [Bool.and_eq_true, decide_eq_true_eq] at hb
      exact op_rep pins s σ H _ _ v u Q I rx ry ⟨a, j, xs, rfl, p2.int, sa, hb.1.1, hb.1.2, by rw [ra.length, sizeLine_eq]; exact hb.2, fun p hp => res_l k e hp (ra.flat _)⟩
    · cases e
  · cases e

/-! ### == of data -/
mutual
def D.py : D → PyData
  | .non => .none
  | .bl b => .bool b
  | .int i => .int i
  | .str x => .str x
  | .tup l => .tuple (D.pys l)
  | .lst l => .list (D.pys l)
  | .frz l => .list (D.pys l)
  | .dct _ _ => .none
  | .obj _ _ => .none
def D.pys : List D → List PyData
  | [] => []
  | d :: ds => D.py d :: D.pys ds
end
theorem py_eqvs : ∀ {d e : List D}, (∀ a ∈ d, ∀ b ∈ e, PyData.eqv a.py b.py = D.eqv a b) → PyData.eqvAll (D.pys d) (D.pys e) = D.eqvs d e
  | [], [], _ => rfl
  | a :: r, b :: t, h => by
    show (PyData.eqv a.py b.py && PyData.eqvAll (D.pys r) (D.pys t)) = (D.eqv a b && D.eqvs r t)
    rw [h a (by simp) b (by simp), py_eqvs fun x hx y hy => h x (by simp [hx]) y (by simp [hy])]
  | [], b :: t, _ => rfl
  | a :: r, [], _ => rfl
theorem flat_dct {n : Nat} {ks vs : List D} : D.flatN n (.dct ks vs) = false := by cases n <;> rfl
theorem flat_obj {n c : Nat} {vs : List D} : D.flatN n (.obj c vs) = false := by cases n <;> rfl
theorem flat_frz {n : Nat} {vs : List D} : D.flatN n (.frz vs) = false := by cases n <;> rfl
theorem py_eqv : ∀ (n : Nat) {m : Nat} {d e : D}, D.flatN n d = true → D.flatN m e = true → PyData.eqv d.py e.py = D.eqv d e := by
  intro n
  induction n with
  | zero =>
    intro m d e h1 h2
    cases d <;> first
      | (cases h1; done)
      | (cases e <;> first | rfl | (rw [flat_dct] at h2; cases h2) | (rw [flat_obj] at h2; cases h2) | (rw [flat_frz] at h2; cases h2))
  | succ n ih =>
    intro m d e h1 h2
    cases d with
    | tup l =>
      cases e with
      | tup k =>
        cases m with
        | zero => cases h2
        | succ m =>
          simp only [D.flatN, List.all_eq_true] at h1 h2
          exact py_eqvs fun a ha b hb => ih (h1 a ha) (h2 b hb)
      | dct _ _ => rw [flat_dct] at h2; cases h2
      | obj _ _ => rw [flat_obj] at h2; cases h2
      | frz _ => rw [flat_frz] at h2; cases h2
      | _ => rfl
    | lst l =>
      cases e with
      | lst k =>
        cases m with
        | zero => cases h2
        | succ m =>
          simp only [D.flatN, List.all_eq_true] at h1 h2
          exact py_eqvs fun a ha b hb => ih (h1 a ha) (h2 b hb)
      | dct _ _ => rw [flat_dct] at h2; cases h2
      | obj _ _ => rw [flat_obj] at h2; cases h2
      | frz _ => rw [flat_frz] at h2; cases h2
      | _ => rfl
    | dct _ _ => cases h1
    | obj _ _ => cases h1
    | frz _ => cases h1
    | _ => cases e <;> first | rfl | (rw [flat_dct] at h2; cases h2) | (rw [flat_obj] at h2; cases h2) | (rw [flat_frz] at h2; cases h2)
theorem pys_shape : ∀ {l : List D} {n : Nat}, (∀ a ∈ l, a.py.canLay0 = true ∧ a.py.depth ≤ n) → PyData.canLayAll0 (D.pys l) = true ∧ PyData.depthAll (D.pys l) ≤ n
  | [], n, _ => ⟨rfl, Nat.zero_le _⟩
  | a :: r, n, h => by
    obtain ⟨h1, h2⟩ := pys_shape (l := r) (n := n) fun x hx => h x (by simp [hx])
    obtain ⟨h3, h4⟩ := h a (by simp)
    exact ⟨by show (a.py.canLay0 && PyData.canLayAll0 (D.pys r)) = true; rw [h3, h1] <;> rfl, Nat.max_le.mpr ⟨h4, h2⟩⟩
theorem py_shape : ∀ (n : Nat) {d : D}, D.flatN n d = true → d.py.canLay0 = true ∧ d.py.depth ≤ n := by
  intro n
  induction n with
  | zero =>
    intro d h
    cases d <;> first | (cases h; done) | exact ⟨h, Nat.le_refl _⟩ | exact ⟨rfl, Nat.le_refl _⟩
  | succ n ih =>
    intro d h
    cases d with
    | tup l =>
      simp only [D.flatN, List.all_eq_true] at h
      obtain ⟨h1, h2⟩ := pys_shape (n := n) fun a ha => ih (h a ha)
      exact ⟨h1, Nat.succ_le_succ h2⟩
    | lst l =>
      simp only [D.flatN, List.all_eq_true] at h
      obtain ⟨h1, h2⟩ := pys_shape (n := n) fun a ha => ih (h a ha)
      exact ⟨h1, Nat.succ_le_succ h2⟩
    | dct _ _ => cases h
    | obj _ _ => cases h
    | frz _ => cases h
    | str x => exact ⟨h, Nat.zero_le _⟩
    | _ => exact ⟨rfl, Nat.zero_le _⟩
theorem plain_shaped {d : D} (h : plain d = true) : SeqAt.shaped d.py = true := by
  obtain ⟨h1, h2⟩ := py_shape 60 h
  unfold SeqAt.shaped
  rw [h1, Bool.true_and, decide_eq_true_eq]
  omega
mutual
theorem Rp.dp {K : PySem.W.Frag} {O : Addr → Prop} {H : Hp} : ∀ {d : D} {v : V}, Rp K O H v d → (∀ k x, d ≠ .dct k x) → (∃ n, D.flatN n d = true) → Dp K H v d.py
  | .non, _, .non, _, _ => .non
  | .bl _, _, .bl b, _, _ => .bl b
  | .int _, _, .int i, _, _ => .int i
  | .str _, _, .str x, _, _ => .str x
  | .tup ds, _, .tup h hd n r, _, f => .tup (.inl (.inr ⟨_, h⟩)) (Rps.dp r (by
      obtain ⟨n, f⟩ := f
      cases n with
      | zero => cases f
      | succ n => exact fun a ha => ⟨n, by simp only [D.flatN, List.all_eq_true] at f; exact f a ha⟩))
  | .tup ds, _, .tupK h r, _, f => .tup h.sq (Rps.dp r (by
      obtain ⟨n, f⟩ := f
      cases n with
      | zero => cases f
      | succ n => exact fun a ha => ⟨n, by simp only [D.flatN, List.all_eq_true] at f; exact f a ha⟩))
  | .lst ds, _, .lst h n r, _, f => .lst (.of h) (Rps.dp r (by
      obtain ⟨n, f⟩ := f
      cases n with
      | zero => cases f
      | succ n => exact fun a ha => ⟨n, by simp only [D.flatN, List.all_eq_true] at f; exact f a ha⟩))
  | .frz ds, _, _, _, f => by
    obtain ⟨n, f⟩ := f
    rw [flat_frz] at f
    cases f
  | .dct k x, _, _, h, _ => absurd rfl (h k x)
theorem Rps.dp {K : PySem.W.Frag} {O : Addr → Prop} {H : Hp} : ∀ {ds : List D} {vs : List V}, Rps K O H vs ds → (∀ a ∈ ds, ∃ n, D.flatN n a = true) → DpAll K H vs (D.pys ds)
  | [], _, .nil, _ => .nil
  | a :: r, _, .cons h t, f => .cons (Rp.dp h (fun k x e => by
      obtain ⟨n, q⟩ := f a (by simp)
      rw [e, flat_dct] at q
      cases q) (f a (by simp))) (Rps.dp t fun x hx => f x (by simp [hx]))
end
theorem Pk.dp {K : PySem.W.Frag} {O : Addr → Prop} {H : Hp} {v : V} {d : D} (h : Pk K O H v d) (f : plain d = true) : Dp K H v d.py := by
  have nd : ∀ k x, d ≠ .dct k x := fun k x e => by
    have f' : D.flatN 60 d = true := f
    rw [e, flat_dct] at f'
    cases f'
  rcases h with h | ⟨a, fp, rfl, h⟩
  · exact h.dp nd ⟨60, f⟩
  · cases h with
    | lst h r =>
      have f' : D.flatN (59 + 1) _ = true := f
      simp only [D.flatN, List.all_eq_true] at f'
      exact .lst (.of h) (r.dp fun x hx => ⟨59, f' x hx⟩)
    | dct _ _ => exact absurd rfl (nd _ _)
theorem o_eq (hu : X.A.units + 64 < cLine) : OpR X (compareOp .Eq) (r2 X.K fEq) := fun pins s σ H x y v u Q I rx ry h => by
  obtain ⟨O, ds, r, tr, p, e, k⟩ := h
  unfold fEq at e
  split at e
  · rename_i d e1
    split at e
    · rename_i c
      rw [Bool.and_eq_true] at c
      obtain ⟨a, b, e2, p1, p2⟩ := p.two
      cases e2
      refine op_eqD hu pins s σ H _ _ v u Q I rx ry ⟨d.py, e1.py, p1.dp c.1, p2.dp c.2, plain_shaped c.1, plain_shaped c.2, ?_⟩
      rw [py_eqv 60 c.1 c.2]
      exact res_v k e (.bl _)
    · cases e
  · cases e
theorem o_ne (hu : X.A.units + 64 < cLine) : OpR X (compareOp .NotEq) (r2 X.K fNe) := fun pins s σ H x y v u Q I rx ry h => by
  obtain ⟨O, ds, r, tr, p, e, k⟩ := h
  unfold fNe at e
  split at e
  · rename_i d e1
    split at e
    · rename_i c
      rw [Bool.and_eq_true] at c
      obtain ⟨a, b, e2, p1, p2⟩ := p.two
      cases e2
      refine op_neD hu pins s σ H _ _ v u Q I rx ry ⟨d.py, e1.py, p1.dp c.1, p2.dp c.2, plain_shaped c.1, plain_shaped c.2, ?_⟩
      rw [py_eqv 60 c.1 c.2]
      exact res_v k e (.bl _)
    · cases e
  · cases e
theorem o_isN : OpR X (compareOp .Is) (r2 X.K fIsN) := fun pins s σ H x y v u Q I rx ry h => by
  obtain ⟨O, ds, r, tr, p, e, k⟩ := h
  unfold fIsN at e
  split at e
  · rename_i d
    obtain ⟨a, b, e2, p1, p2⟩ := p.two
    cases e2
    refine op_isN pins s σ H _ _ v u Q I rx ry ⟨p2.non, ?_⟩
    have : decide (x = V.non) = d.isNon := by
      rcases p1 with p1 | ⟨b, fp, rfl, p1⟩
      · cases p1 <;> rfl
      · cases p1 <;> rfl
    rw [this]
    exact res_v k e (.bl _)
  · cases e
theorem o_notN : OpR X (compareOp .IsNot) (r2 X.K fNotN) := fun pins s σ H x y v u Q I rx ry h => by
  obtain ⟨O, ds, r, tr, p, e, k⟩ := h
  unfold fNotN at e
  split at e
  · rename_i d
    obtain ⟨a, b, e2, p1, p2⟩ := p.two
    cases e2
    refine op_notN pins s σ H _ _ v u Q I rx ry ⟨p2.non, ?_⟩
    have : decide (x = V.non) = d.isNon := by
      rcases p1 with p1 | ⟨b, fp, rfl, p1⟩
      · cases p1 <;> rfl
      · cases p1 <;> rfl
    rw [this]
    exact res_v k e (.bl _)
  · cases e
theorem o_isB : OpR X (compareOp .Is) (r2 X.K fIsB) := fun pins s σ H x y v u Q I rx ry h => by
  obtain ⟨O, ds, r, tr, p, e, k⟩ := h
  unfold fIsB at e
  split at e
  · rename_i i j
    obtain ⟨a, b, e2, p1, p2⟩ := p.two
    cases e2
    refine op_is_bl pins s σ H _ _ v u Q I rx ry ⟨i, j, p1.bl, p2.bl, ?_⟩
    have : decide (i = j) = (i == j) := by cases i <;> cases j <;> rfl
    rw [this]
    exact res_v k e (.bl _)
  · cases e
theorem o_notB : OpR X (compareOp .IsNot) (r2 X.K fNotB) := fun pins s σ H x y v u Q I rx ry h => by
  obtain ⟨O, ds, r, tr, p, e, k⟩ := h
  unfold fNotB at e
  split at e
  · rename_i i j
    obtain ⟨a, b, e2, p1, p2⟩ := p.two
    cases e2
    refine op_isnot_bl pins s σ H _ _ v u Q I rx ry ⟨i, j, p1.bl, p2.bl, ?_⟩
    have : decide (i = j) = (i == j) := by cases i <;> cases j <;> rfl
    rw [this]
    exact res_v k e (.bl _)
  · cases e
end
end Al
end
section
namespace Al
open PySem PySem.Spec PyProof.Rows L2

/-! ### set(xs), a list of ints -/
section
variable {P : Program} {w : World} {A : Around} {E : Value → Shared → Prop} {s : Shared}
set_option maxHeartbeats 8000000 in
theorem call_setL {l : Addr} {items : Array Value} (ns : List Int) {Q : Value → Shared → Prop} (hh : A.handled = none) (hl : s.heap.IsList l items) (hit : IntsAre items.toList ns) (few : ns.length + 1 < scanBound)
    (k : ∀ (h' : Heap) (tk c : Nat), SetR w h' s.heap.objs.size (fun j => decide (j ∈ ns)) c → c ≤ ns.length → (∀ b o, s.heap.get? b = some o → h'.get? b = some o) → Q (.ref s.heap.objs.size) { s with heap := h', toks := tk }) :
    wpAny (model P w) A (call (.type "set") [.ref l]) Q E s := by
  have size_eq : items.size = ns.length := by
    have := IntsAre.length hit
    rwa [Array.length_toList] at this
  generalize ho : ({ cls := .type "set", dict := none, data := .set #[] 0 (.fresh 0 0 (!w.params.followText "set-order")) } : Obj) = ob
  have new_at : (s.heap.push ob).get? s.heap.objs.size = some ob := Heap.get?_push_size _ (by rw [← ho]; rfl)
  have old_at : ∀ {b o}, s.heap.get? b = some o → (s.heap.push ob).get? b = some o := fun e => Heap.get?_push_of_some _ e
  have new_size : (s.heap.push ob).objs.size = s.heap.objs.size + 1 := Heap.size_push ..
  obtain ⟨c, tl, m1⟩ := F.called_set.mro
  have m2 := F.called_set.made
  have m3 := F.called_set.sub
  refine wpAny_call (codeAny_of_tree ?_)
  change wpAny _ _ (callAny (.type "set") _) _ _ _
  refine wpAny_pure ⟨Code.quiet_builtin _ (by decide +kernel), codeAny_builtin F.entry_type_call ?_⟩
  rw [Around.under_plain (weight_type_call_type "set" [.ref l] []) rfl]
  have m4 := F.called_set.notType
  have m5 := F.called_set.canCreate
  have m6 := F.typeCall_set_1 (.ref l)
  repeat (any_goals (first | assumption | wp_step))
  refine codeAny_mono (code_set_led1 (.ref l) (E := E) (Q₁ := fun obj t => obj = .ref s.heap.objs.size ∧ t = { s with heap := s.heap.push ob }) (by rw [ho]; exact ⟨rfl, rfl⟩)) fun r t hr => ?_
  cases r with
  | error e => exact hr
  | ok fl =>
    cases fl with
    | ret obj =>
      obtain ⟨rfl, rfl⟩ := hr
      have ty : Shared.TypeIs { s with heap := s.heap.push ob } (.ref s.heap.objs.size) "set" := ⟨_, new_at, by rw [← ho]⟩
      have m7 := F.called_set.init.lookup
      have m8 := F.called_set.init.bind (.ref s.heap.objs.size)
      repeat (any_goals (first | assumption | wp_step))
      refine codeAny_mono (codeAny_call_builtin (R := wants (fun r t => r = .none ∧ ∃ h' tk c, t = { s with heap := h', toks := tk } ∧ SetR w h' s.heap.objs.size (fun j => decide (j ∈ ns)) c ∧ c ≤ ns.length ∧ (∀ b o, s.heap.get? b = some o → h'.get? b = some o)) E)
        F.called_set.init.plain F.entry_set_init (check_set_init_1 ty ?_)) fun r2 t2 hr2 => ?_
      · obtain ⟨⟨lc, ld, lt, ls⟩, hol, hcl, nl, hdl⟩ := hl
        simp only at hcl hdl
        subst hcl hdl
        have l_at := old_at hol
        have n1 := F.sub_list_set
        have n2 := F.sub_list_frozenset
        have n3 : (Value.type "list" == Value.type "dict") = false := by decide
        have l_is : (s.heap.push ob).IsList l items := ⟨_, l_at, rfl, nl, rfl⟩
        have l_lt : l < s.heap.objs.size := Heap.lt_size hol
        have neI : l ≠ (s.heap.push ob).objs.size := by rw [new_size]; exact Nat.ne_of_lt (Nat.lt_succ_of_lt l_lt)
        have nS : s.heap.objs.size ∉ [(s.heap.push ob).objs.size, l] := by
          rw [new_size]
          simp only [List.mem_cons, List.not_mem_nil, or_false, not_or]
          exact ⟨Nat.ne_of_lt (Nat.lt_succ_self _), Nat.ne_of_gt l_lt⟩
        subst ho
        unfold Builtin.«set.__init__» noKeywords Builtin.Frozenset.updateFrom
        generalize hP : pyIter = PI
        wp_walk
        subst hP
        refine wpAny_pyIter_list l_is ?_
        refine wpAny_bind (wpAny_runValue ?_)
        have h3 : A.in1.in1.in1.handled = none := by simp [hh]
        have val : ∀ (i : Nat) (v : Value), items[i]? = some v → ∃ k t, ns[i]? = some k ∧ v = .int k t := fun i v hv => by
          have hi : i < ns.length := by rw [← size_eq]; exact (Array.getElem?_eq_some_iff.mp hv).1
          obtain ⟨t, e⟩ := PyProof.Rows.IntsAre.int_at hit i v (by rw [Array.getElem?_toList]; exact hv)
          refine ⟨ns[i], t, List.getElem?_eq_getElem hi, ?_⟩
          rw [e, List.getD_eq_getElem?_getD, List.getElem?_eq_getElem hi] <;> rfl
        refine set_update_ints ((Walks.list h3 _ l neI items).toS) s.heap.objs.size nS ns size_eq few val (items.size - 0) 0 _ (by omega) (Nat.zero_le _)
          ⟨⟨_, Heap.get?_push_size _ rfl, rfl, rfl⟩, l_is.push _⟩ ?start ?fin
        case start =>
          refine ⟨0, Nat.le_refl 0, setR_new_at ?_⟩
          exact Heap.get?_push_of_some _ new_at
        case fin =>
          intro t c' mv hc' hS'
          obtain ⟨h', g2, d', tk', os'⟩ := t
          obtain rfl : g2 = s.gens := mv.gens
          obtain rfl : d' = s.drawn := mv.drawn
          obtain rfl : os' = s.os := mv.os
          show wpAny _ _ _ _ _ _
          refine wpAny_pure ?_
          show wpAny _ _ (ret Value.none) _ _ _
          rw [size_eq] at hc'
          refine wpAny_pure ⟨rfl, h', tk', c', rfl, hS', hc', fun b o e => ?_⟩
          have b0 : b < s.heap.objs.size := Heap.lt_size e
          refine mv.heap b o ?_ (Heap.get?_push_of_some _ (old_at e))
          rw [new_size]
          simp only [List.mem_cons, List.not_mem_nil, or_false, not_or]
          exact ⟨Nat.ne_of_lt b0, Nat.ne_of_lt (Nat.lt_succ_of_lt b0)⟩
      · cases r2 with
        | error e => exact hr2
        | ok fl2 =>
          cases fl2 with
          | ret r =>
            obtain ⟨rfl, h', tk, c', rfl, hS', hc', hk'⟩ := hr2
            repeat (any_goals (first | assumption | wp_step))
            exact k _ _ _ hS' hc' hk'
          | _ => exact hr2.elim
    | _ => exact hr.elim
end
end Al
end
section
namespace Al
open PySem PySem.Spec PyProof.Rows L2

section
variable {X : Cx}
/-! ### in, not in -/
theorem Pk.dpT {K : PySem.W.Frag} {O : Addr → Prop} {H : Hp} {v : V} {l : List D} (h : Pk K O H v (.tup l)) (f : l.all plain = true) : Dp K H v (.tuple (D.pys l)) := by
  have := h.rp_tup.dp (fun k x e => by cases e) ⟨61, by simp only [D.flatN]; exact f⟩
  exact this
theorem Pk.dpL {K : PySem.W.Frag} {O : Addr → Prop} {H : Hp} {v : V} {l : List D} (h : Pk K O H v (.lst l)) (f : l.all plain = true) : Dp K H v (.list (D.pys l)) := by
  obtain ⟨a, xs, rfl, h1, r⟩ := h.lst
  exact .lst (.of h1) (r.dp fun x hx => ⟨60, List.all_eq_true.mp f x hx⟩)
theorem all_lay {l : List D} (f : l.all plain = true) : PyData.canLayAll0 (D.pys l) = true := (pys_shape (n := 60) fun a ha => py_shape 60 (List.all_eq_true.mp f a ha)).1
theorem any_py {d : D} : ∀ {l : List D}, plain d = true → l.all plain = true → ((D.pys l).any fun z => PyData.eqv z d.py) = l.any fun e => D.eqv e d
  | [], _, _ => rfl
  | a :: r, h1, h2 => by
    simp only [List.all_cons, Bool.and_eq_true] at h2
    show (PyData.eqv a.py d.py || (D.pys r).any fun z => PyData.eqv z d.py) = (D.eqv a d || r.any fun e => D.eqv e d)
    rw [py_eqv 60 h2.1 h1, any_py h1 h2.2]
theorem o_in (hu : X.A.units + 65 < cLine) : OpR X (compareOp .In) (r2 X.K fIn) := fun pins s σ H x y v u Q I rx ry h => by
  obtain ⟨O, ds, r, tr, p, e, k⟩ := h
  unfold fIn at e
  split at e
  · rename_i d l
    split at e
    · rename_i c
      rw [Bool.and_eq_true] at c
      obtain ⟨a, b, e2, p1, p2⟩ := p.two
      cases e2
      obtain ⟨as, r1⟩ := Dp.reads I _ _ v (p1.dp c.1) rx
      obtain ⟨bs, r2⟩ := Dp.reads I _ _ u (p2.dpT c.2) ry
      refine SeqAt.in_tuple_reads r2 r1 (all_lay c.2) (SeqAt.canLay_of_shaped (plain_shaped c.1)) (room_in_shaped (plain_shaped c.1) hu) ⟨.bl _, H, I, rfl, ?_⟩
      rw [any_py c.1 c.2]
      exact res_v k e (.bl _)
    · cases e
  · rename_i d l
    split at e
    · rename_i c
      rw [Bool.and_eq_true] at c
      obtain ⟨a, b, e2, p1, p2⟩ := p.two
      cases e2
      obtain ⟨as, r1⟩ := Dp.reads I _ _ v (p1.dp c.1) rx
      obtain ⟨bs, r2⟩ := Dp.reads I _ _ u (p2.dpL c.2) ry
      refine SeqAt.in_list_reads r2 r1 (all_lay c.2) (SeqAt.canLay_of_shaped (plain_shaped c.1)) (room_in_shaped (plain_shaped c.1) hu) ⟨.bl _, H, I, rfl, ?_⟩
      rw [any_py c.1 c.2]
      exact res_v k e (.bl _)
    · cases e
  · cases e
theorem o_notIn (hu : X.A.units + 65 < cLine) : OpR X (compareOp .NotIn) (r2 X.K fNotIn) := fun pins s σ H x y v u Q I rx ry h => by
  obtain ⟨O, ds, r, tr, p, e, k⟩ := h
  unfold fNotIn at e
  split at e
  · rename_i d l
    split at e
    · rename_i c
      rw [Bool.and_eq_true] at c
      obtain ⟨a, b, e2, p1, p2⟩ := p.two
      cases e2
      obtain ⟨as, r1⟩ := Dp.reads I _ _ v (p1.dp c.1) rx
      obtain ⟨bs, r2⟩ := Dp.reads I _ _ u (p2.dpT c.2) ry
      refine SeqAt.notIn_tuple_reads r2 r1 (all_lay c.2) (SeqAt.canLay_of_shaped (plain_shaped c.1)) (room_in_shaped (plain_shaped c.1) hu) ⟨.bl _, H, I, rfl, ?_⟩
      rw [any_py c.1 c.2]
      exact res_v k e (.bl _)
    · cases e
  · rename_i d l
    split at e
    · rename_i c
      rw [Bool.and_eq_true] at c
      obtain ⟨a, b, e2, p1, p2⟩ := p.two
      cases e2
      obtain ⟨as, r1⟩ := Dp.reads I _ _ v (p1.dp c.1) rx
      obtain ⟨bs, r2⟩ := Dp.reads I _ _ u (p2.dpL c.2) ry
      refine SeqAt.notIn_list_reads r2 r1 (all_lay c.2) (SeqAt.canLay_of_shaped (plain_shaped c.1)) (room_in_shaped (plain_shaped c.1) hu) ⟨.bl _, H, I, rfl, ?_⟩
      rw [any_py c.1 c.2]
      exact res_v k e (.bl _)
    · cases e
  · cases e

/-! ### built-ins -/
/-- a built-in of one operand, by its rule -/
theorem c_len : CallR X (.builtin "len") (rOp X.K fLen) := fun pins s σ H vs us Q I rr h => by
  obtain ⟨O, ds, r, tr, p, e, k⟩ := h
  unfold fLen at e
  split at e
  · obtain ⟨v, rfl, p1⟩ := p.one
    obtain ⟨a, xs, rfl, sq, rs⟩ := p1.tup
    exact call_len pins s σ H _ us Q I rr ⟨_, xs.length, rfl, .inr ⟨xs, sq, rfl⟩, by rw [rs.length]; exact res_v k e (.int _)⟩
  · obtain ⟨v, rfl, p1⟩ := p.one
    obtain ⟨a, xs, rfl, sq, rs⟩ := p1.lst
    exact call_len pins s σ H _ us Q I rr ⟨_, xs.length, rfl, .inl ⟨xs, .of sq, rfl⟩, by rw [rs.length]; exact res_v k e (.int _)⟩
  · obtain ⟨v, rfl, p1⟩ := p.one
    obtain ⟨a, xs, rfl, sq, rs⟩ := p1.frz
    exact call_len pins s σ H _ us Q I rr ⟨_, xs.length, rfl, .inl ⟨xs, sq, rfl⟩, by rw [rs.length]; exact res_v k e (.int _)⟩
  · rename_i x
    split at e
    · rename_i hl
      obtain ⟨v, rfl, p1⟩ := p.one
      cases p1.str
      exact call_len pins s σ H _ us Q I rr ⟨_, x.length, rfl, ⟨by rw [sizeLine_eq]; exact hl, rfl⟩, res_v k e (.int _)⟩
    · cases e
  · cases e
theorem c_abs : CallR X (.builtin "abs") (rOp X.K fAbs) := fun pins s σ H vs us Q I rr h => by
  obtain ⟨O, ds, r, tr, p, e, k⟩ := h
  unfold fAbs at e
  split at e
  · rename_i i
    obtain ⟨v, rfl, p1⟩ := p.one
    cases p1.int
    exact call_abs pins s σ H _ us Q I rr ⟨i, rfl, res_v k e (.int _)⟩
  · cases e
theorem c_max2 (hc : X.calm = true) : CallR X (.builtin "max") (rOp X.K fMax2) := fun pins s σ H vs us Q I rr h => by
  obtain ⟨O, ds, r, tr, p, e, k⟩ := h
  unfold fMax2 at e
  split at e
  · rename_i i j
    obtain ⟨v, w, rfl, p1, p2⟩ := p.two
    cases p1.int
    cases p2.int
    exact call_max2 hc pins s σ H _ us Q I rr ⟨i, j, rfl, res_v k e (.int _)⟩
  · cases e
theorem c_min2 (hc : X.calm = true) : CallR X (.builtin "min") (rOp X.K fMin2) := fun pins s σ H vs us Q I rr h => by
  obtain ⟨O, ds, r, tr, p, e, k⟩ := h
  unfold fMin2 at e
  split at e
  · rename_i i j
    obtain ⟨v, w, rfl, p1, p2⟩ := p.two
    cases p1.int
    cases p2.int
    exact call_min2 hc pins s σ H _ us Q I rr ⟨i, j, rfl, res_v k e (.int _)⟩
  · cases e
theorem c_int : CallR X (.type "int") (rOp X.K fInt) := fun pins s σ H vs us Q I rr h => by
  obtain ⟨O, ds, r, tr, p, e, k⟩ := h
  unfold fInt at e
  split at e
  · rename_i i
    obtain ⟨v, rfl, p1⟩ := p.one
    cases p1.int
    exact call_int1 pins s σ H _ us Q I rr (.inl ⟨i, rfl, res_v k e (.int _)⟩)
  · rename_i b
    obtain ⟨v, rfl, p1⟩ := p.one
    cases p1.bl
    exact call_int1 pins s σ H _ us Q I rr (.inr ⟨b, rfl, res_v k e (.int _)⟩)
  · cases e
theorem c_all (hc : X.calm = true) : CallR X (.builtin "all") (rOp X.K fAll) := fun pins s σ H vs us Q I rr h => by
  obtain ⟨O, ds, r, tr, p, e, k⟩ := h
  unfold fAll at e
  split at e
  · rename_i l
    simp only [Option.bind_eq_some_iff] at e
    obtain ⟨bs, e1, e2⟩ := e
    obtain ⟨v, rfl, p1⟩ := p.one
    obtain ⟨a, xs, rfl, sq, rs⟩ := p1.lst
    exact cr_all hc pins s σ H _ us Q I rr ⟨a, bs, rfl, by rw [← rs.of_bls e1]; exact .of sq, res_v k e2 (.bl _)⟩
  · cases e
theorem c_any (hc : X.calm = true) : CallR X (.builtin "any") (rOp X.K fAny) := fun pins s σ H vs us Q I rr h => by
  obtain ⟨O, ds, r, tr, p, e, k⟩ := h
  unfold fAny at e
  split at e
  · rename_i l
    simp only [Option.bind_eq_some_iff] at e
    obtain ⟨bs, e1, e2⟩ := e
    obtain ⟨v, rfl, p1⟩ := p.one
    obtain ⟨a, xs, rfl, sq, rs⟩ := p1.lst
    exact cr_any hc pins s σ H _ us Q I rr ⟨a, bs, rfl, by rw [← rs.of_bls e1]; exact .of sq, res_v k e2 (.bl _)⟩
  · cases e
theorem c_tuple : CallR X (.type "tuple") (rOp X.K fTuple) := fun pins s σ H vs us Q I rr h => by
  obtain ⟨O, ds, r, tr, p, e, k⟩ := h
  unfold fTuple at e
  split at e
  · rename_i l
    obtain ⟨v, rfl, p1⟩ := p.one
    obtain ⟨a, xs, rfl, sq, rs⟩ := p1.lst
    obtain ⟨u, rfl, rx⟩ := vals1 rr
    cases rx
    obtain ⟨its, rv, pl, hz⟩ := I.list (SqL.of sq)
    refine call_tuple_list pl.isList (fun h' kp => ?_) (by rw [List.size_toArray, ← rv.length]; exact hz)
    have I1 : Inv X pins σ H { s with heap := h' } := I.kept (t' := s.toks) kp
    have g : (h'.push { cls := .type "tuple", data := .seq its.toArray }).get? h'.objs.size = some { cls := .type "tuple", data := .seq its.toArray } := Heap.get?_push_size _ rfl
    have hp : H h'.objs.size = none := I1.hok.fresh (Nat.le_refl _)
    have ok := I1.laid (t' := s.toks) (o := .frz { cls := .type "tuple", data := .seq its.toArray } (.tup xs)) (fun b o e => Heap.get?_push_of_some _ e) (Nat.le_refl _) ⟨g, hz, its, rv, ⟨_, g, rfl, _, rfl⟩⟩
    exact ⟨.ref h'.objs.size, _, ok, rfl, res_t tr k e hp rfl rs⟩
  · rename_i l
    obtain ⟨v, rfl, p1⟩ := p.one
    have q := p1.rp_tup
    obtain ⟨a, xs, rfl, sq, rs⟩ := p1.tup
    exact call_tuple_of pins s σ H _ us Q I rr ⟨a, xs, rfl, .inr ⟨sq, res_v k e q⟩⟩
  · cases e
theorem c_list : CallR X (.type "list") (rOp X.K fList) := fun pins s σ H vs us Q I rr h => by
  obtain ⟨O, ds, r, tr, p, e, k⟩ := h
  unfold fList at e
  split at e
  · obtain ⟨v, rfl, p1⟩ := p.one
    obtain ⟨a, xs, rfl, sq, rs⟩ := p1.lst
    exact call_list_of pins s σ H _ us Q I rr ⟨a, xs, rfl, .inl (.of sq), fun p hp => res_l k e hp rs⟩
  · obtain ⟨v, rfl, p1⟩ := p.one
    obtain ⟨a, xs, rfl, sq, rs⟩ := p1.tup
    exact call_list_of pins s σ H _ us Q I rr ⟨a, xs, rfl, .inr sq, fun p hp => res_l k e hp rs⟩
  · cases e
theorem atI_of {α : Type} {xs : List α} {i : Int} {k : Nat} {v : α} (h : ixOf xs.length i = some k) (e : xs[k]? = some v) : atI xs i = some v := by
  unfold atI
  rw [← ix_eq, h]
  exact e
theorem o_ix : IxR X (r2 X.K fIx) := fun value slice pins s σ H x y v u Q I rx ry h hs => by
  obtain ⟨O, ds, r, tr, p, e, k⟩ := h
  unfold fIx at e
  split at e
  · rename_i l i
    simp only [Option.bind_eq_some_iff] at e
    obtain ⟨j, e1, d, e2, e3⟩ := e
    obtain ⟨v1, w1, e4, p1, p2⟩ := p.two
    cases e4
    obtain ⟨a, xs, rfl, sq, rs⟩ := p1.frz
    cases p2.int
    obtain ⟨z, ez, rz⟩ := rs.get e2
    rw [← rs.length] at e1
    exact ix_list value slice pins s σ H _ _ v u Q I rx ry ⟨a, xs, i, z, rfl, rfl, sq, atI_of e1 ez, res_v k e3 rz⟩ hs
  · rename_i l i
    simp only [Option.bind_eq_some_iff] at e
    obtain ⟨j, e1, d, e2, e3⟩ := e
    obtain ⟨v1, w1, e4, p1, p2⟩ := p.two
    cases e4
    obtain ⟨a, xs, rfl, sq, rs⟩ := p1.tup
    cases p2.int
    obtain ⟨z, ez, rz⟩ := rs.get e2
    rw [← rs.length] at e1
    exact ix_tup value slice pins s σ H _ _ v u Q I rx ry ⟨a, xs, i, z, rfl, rfl, sq, atI_of e1 ez, res_v k e3 rz⟩ hs
  · rename_i l i
    simp only [Option.bind_eq_some_iff] at e
    obtain ⟨j, e1, d, e2, e3⟩ := e
    obtain ⟨v1, w1, e4, p1, p2⟩ := p.two
    cases e4
    obtain ⟨a, xs, rfl, sq, rs⟩ := p1.lst
    cases p2.int
    obtain ⟨z, ez, rz⟩ := rs.get e2
    rw [← rs.length] at e1
    exact ix_list value slice pins s σ H _ _ v u Q I rx ry ⟨a, xs, i, z, rfl, rfl, .of sq, atI_of e1 ez, res_v k e3 rz⟩ hs
  · cases e

/-! ### isinstance -/
def Ty.name : Ty → String
  | .int => "int"
  | .bool => "bool"
  | .str => "str"
  | .tuple => "tuple"
  | .list => "list"
def D.tyName : D → String
  | .non => "NoneType"
  | .bl _ => "bool"
  | .int _ => "int"
  | .str _ => "str"
  | .tup _ => "tuple"
  | .lst _ => "list"
  | .frz _ => "list"
  | .dct _ _ => "dict"
  | .obj _ _ => "object"
theorem kit_has : ∀ (t : Ty) (d : D) (b : Bool), t.has d = some b → kitB d.tyName t.name = some b := by
  intro t d b h
  cases t <;> cases d <;> first | (cases h; done) | (simp only [Ty.has, Option.some.injEq] at h; subst h; simp only [D.tyName, Ty.name]; decide +kernel)
theorem Pk.tyX {K : PySem.W.Frag} {O : Addr → Prop} {H : Hp} {v : V} {d : D} (h : Pk K O H v d) (n1 : ∀ k x, d ≠ .dct k x) : TyX K H v (.type d.tyName) := by
  rcases h with h | ⟨a, fp, rfl, h⟩
  · cases h with
    | non => exact .base .non
    | bl b => exact .base (.bl b)
    | int i => exact .base (.int i)
    | str x => exact .base (.str x)
    | tup h hd n r => exact .fTuple h
    | tupK h r =>
      obtain ⟨o, its, n, h1, h2, _⟩ := h
      exact .kTuple h1 h2.1
    | lst h n r => exact .base (.lst h)
    | frz h n r =>
      rcases h with h | ⟨o, h⟩
      · exact .base (.lst h)
      · exact .base (.frz h)
    | frzK h r =>
      obtain ⟨o, its, n, h1, h2, _⟩ := h
      exact .kList h1 h2
    | dct h n r => exact absurd rfl (n1 _ _)
  · cases h with
    | lst h r => exact .base (.lst h)
    | dct h r => exact absurd rfl (n1 _ _)
theorem x_isi {e : Expr} {m : M} {pos p q : Pos} {f x : Str} (t : Ty) (he : XE X e m) (hf : f = "isinstance") (hx : x = t.name) (hg : Gl X f) (hm : X.mg f = none) (hgx : Gl X x) (hmx : X.mg x = none) (hn : x ≠ "__name__" := by decide) (hdx : (x == ("__debug__" : Str)) = false := by decide)
    (hs : starEach [e, .Name x q] X.env = (false, eval e X.env) :: starEach [.Name x q] X.env := by rfl) (hs2 : starEach [.Name x q] X.env = (false, eval (.Name x q) X.env) :: starEach [] X.env := by rfl)
    (hpl : (backTo pos (starEach [.Name x q] X.env)).any (·.1) = false := by rfl) : XE X (.Call (.Name f p) [e, .Name x q] [] pos) (opS (fIsi t) [m]) := fun G hG => by
  subst hf hx
  have bt : bootBuiltins (Str.ofString t.name) = some (.type t.name) := by cases t <;> decide +kernel
  refine (pe_callB call_isi hg hm (by decide +kernel) (pa_cons (he G hG) (pa_cons (pe_bltn (v := .ty t.name) hgx hmx bt rfl hn hdx) pa_nil hs2) hs) (by decide) (by decide) hs hpl).imp fun σ H Q h => ?_
  refine (tA_one (op_t h)).mono fun v H1 hz => ?_
  obtain ⟨O, ds, r, tr, p, e1, k⟩ := hz
  unfold fIsi at e1
  split at e1
  · rename_i d
    simp only [Option.bind_eq_some_iff] at e1
    obtain ⟨b, e2, e3⟩ := e1
    obtain ⟨w, e4, p1⟩ := p.one
    cases e4
    refine ⟨v, .ty t.name, .type d.tyName, .type t.name, b, rfl, .ty _, ?_, kit_ty (kit_has t d b e2), res_v k e3 (.bl _)⟩
    rw [← hG]
    exact p1.tyX fun k x z => by
      rw [z] at e2
      cases t <;> cases e2
  · cases e1
end
end Al
end
section
namespace Al
open PySem PySem.Spec PyProof.Rows L2

section
variable {X : Cx} {G : Gx} {e a b : Expr} {m ma mb : M} {ms : List M} {pos p2 : Pos}
/-! ### slices -/
theorem Rps.cut {K : PySem.W.Frag} {O : Addr → Prop} {H : Hp} {xs : List V} {l : List D} (h : Rps K O H xs l) (lo hi : Option Int) : Rps K O H (cutV xs lo hi) (cutL l lo hi) := by
  have e1 : loOf l.length lo = HT.sIx xs.length 0 lo := by rw [h.length]; cases lo <;> rfl
  have e2 : hiOf l.length hi = HT.sIx xs.length xs.length hi := by rw [h.length]; cases hi <;> rfl
  unfold cutL cutV
  rw [e1, e2, List.drop_take]
  exact (h.drop _).take _
def rSl (K : PySem.W.Frag) : V → Option Int → Option Int → Hp → VK → Prop := fun x lo hi H Q => ∃ O d r, (∀ b, O b → H b ≠ none) ∧ Pk K O H x d ∧ sliceF d lo hi = some r ∧ (notSl r = true → Res K O H Q r)
theorem sl_any : SlR X (rSl X.K) := fun pins s σ H x v vl vu lo hi sl Q I rx hs pl pu h => by
  obtain ⟨O, d, r, tr, p, e, k⟩ := h
  unfold sliceF at e
  split at e
  · rename_i l
    have q := p.rp_tup
    obtain ⟨a, xs, rfl, sq, rs⟩ := p.tup
    cases rx
    obtain ⟨its, rv, ht, hz⟩ := I.tuple sq
    have hlen : its.toArray.size = xs.length := by rw [List.size_toArray]; exact rv.length.symm
    refine ⟨"tuple", _, PyProof.Rows.slot_tuple_getitem.lookup, ht.typeIs, ?_⟩
    by_cases hw : HT.sIx xs.length 0 lo = 0 ∧ HT.sIx xs.length xs.length hi = xs.length
    · refine getItem_tuple_whole ht hs pl pu (by rw [hlen]; exact hw) ⟨.ref a, H, I, rfl, ?_⟩
      have ec : cutL l lo hi = l := by
        have e1 : loOf l.length lo = HT.sIx xs.length 0 lo := by rw [rs.length]; cases lo <;> rfl
        have e2 : hiOf l.length hi = HT.sIx xs.length xs.length hi := by rw [rs.length]; cases hi <;> rfl
        unfold cutL
        rw [e1, e2, hw.1, hw.2, rs.length, List.take_length] <;> rfl
      rw [ec] at e
      exact res_v k e q
    · refine HT.getItem_tuple_cut ht hs pl pu (by rw [hlen]; exact hw) ?_ (by rw [hlen]; exact hz)
      rw [hlen]
      generalize hc : ((its.toArray.toList.drop (HT.sIx xs.length 0 lo)).take (HT.sIx xs.length xs.length hi - HT.sIx xs.length 0 lo)).toArray = arr
      have g : (s.heap.push { cls := .type "tuple", data := .seq arr }).get? s.heap.objs.size = some { cls := .type "tuple", data := .seq arr } := Heap.get?_push_size _ rfl
      have rv2 := (rv.drop (HT.sIx xs.length 0 lo)).take (HT.sIx xs.length xs.length hi - HT.sIx xs.length 0 lo)
      have ok := I.laid (t' := s.toks) (o := .frz { cls := .type "tuple", data := .seq arr } (.tup (cutV xs lo hi))) (fun b u e => Heap.get?_push_of_some _ e) (Nat.le_refl _)
        ⟨g, Nat.le_trans (cutV_length xs lo hi) hz, _, rv2, ⟨_, g, rfl, 0, by rw [← hc] <;> rfl⟩⟩
      exact ⟨.ref s.heap.objs.size, _, ok, rfl, res_t tr k e (I.hok.fresh (Nat.le_refl _)) rfl (rs.cut lo hi)⟩
  · rename_i l
    obtain ⟨a, xs, rfl, sq, rs⟩ := p.lst
    exact sl_list pins s σ H _ v vl vu lo hi sl Q I rx hs pl pu ⟨a, xs, rfl, .of sq, fun p hp => res_l k e hp (rs.cut lo hi)⟩
  · rename_i l
    obtain ⟨a, xs, rfl, sq, rs⟩ := p.frz
    exact sl_list pins s σ H _ v vl vu lo hi sl Q I rx hs pl pu ⟨a, xs, rfl, sq, fun p hp => res_l k e hp (rs.cut lo hi)⟩
  · cases e
theorem Pks.three {K : PySem.W.Frag} {O : Addr → Prop} {H : Hp} {vs : List V} {d e f : D} (h : Pks K O H vs [d, e, f]) : ∃ u v w, vs = [u, v, w] ∧ Pk K O H u d ∧ Pk K O H v e ∧ Pk K O H w f := by
  cases h with
  | cons a r =>
    obtain ⟨v, w, rfl, h1, h2⟩ := r.two
    exact ⟨_, v, w, rfl, a, h1, h2⟩
theorem tA_three {x y z : M} {σ : L2.St} {H : Hp} {Q : List V → Hp → Prop} (h : tA G [x, y, z] σ H Q) : tM G x σ H fun u H1 => tM G y σ H1 fun v H2 => tM G z σ H2 fun w H3 => Q [u, v, w] H3 :=
  (tA_cons h).mono fun _ _ h => (tA_cons h).mono fun _ _ h => (tA_cons h).mono fun _ _ h => tA_nil h
theorem x_slLo (he : XE X e m) (ha : XE X a ma) : XE X (.Subscript e (.Slice (some a) none none p2) pos) (opS fSlLo [m, ma]) := fun G hG =>
  (pe_slice sl_any (he G hG) (po_some (ha G hG)) po_none).imp fun σ H Q h => (tA_two (op_t h)).mono fun x H1 q => q.mono fun y H2 hz => by
    obtain ⟨O, ds, r, tr, p, e1, k⟩ := hz
    unfold fSlLo at e1
    split at e1
    · rename_i d i
      obtain ⟨u, v, e2, p1, p2⟩ := p.two
      cases e2
      exact ⟨i, p2.int, O, d, r, by rw [← hG]; exact ⟨tr, p1, e1, k⟩⟩
    · cases e1
theorem x_slHi (he : XE X e m) (hb : XE X b mb) : XE X (.Subscript e (.Slice none (some b) none p2) pos) (opS fSlHi [m, mb]) := fun G hG =>
  (pe_slice sl_any (he G hG) po_none (po_some (hb G hG))).imp fun σ H Q h => (tA_two (op_t h)).mono fun x H1 q => q.mono fun y H2 hz => by
    obtain ⟨O, ds, r, tr, p, e1, k⟩ := hz
    unfold fSlHi at e1
    split at e1
    · rename_i d i
      obtain ⟨u, v, e2, p1, p2⟩ := p.two
      cases e2
      exact ⟨i, p2.int, O, d, r, by rw [← hG]; exact ⟨tr, p1, e1, k⟩⟩
    · cases e1
/-! ### a < b < c -/
theorem chain_t {f g : List D → Option R} {mc : M} {σ : L2.St} {H : Hp} {Q : VK} (h : tM G (chainS f g ma mb mc) σ H Q) :
    tChain (r2 G.K f) (r2 G.K g) (tM G ma) (tM G mb) (tM G mc) σ H Q := by
  obtain ⟨O, φ, ρ, r, ρ', h1, h2, h3⟩ := h
  simp only [chainS, Option.bind_eq_some_iff, Prod.exists] at h2
  obtain ⟨rs, ρ1, e1, ds, e2, r1, e3, h2⟩ := h2
  have A : tA G [ma, mb] σ H fun vs H1 => ∀ x y, vs = [x, y] → r2 G.K f x y H1 fun z H3 => ∃ k, z = .bl k ∧ if k = true then tM G mc σ H3 fun w H4 => r2 G.K g y w H4 Q else Q (.bl false) H3 := by
    refine ⟨O, φ, ρ, rs, ρ1, h1, e1, fun vs H1 O1 φ1 s1 t1 q1 x y exy => ?_⟩
    subst exy
    refine ⟨O1, ds, r1, s1.trk, peeks_ok s1 q1 e2, e3, fun ns => res_ok s1 (fun v H' O' φ' s2 t2 q2 => ?_) ns⟩
    split at h2
    · have q2 : Rp G.K O' H' v (.bl true) := q2
      cases q2
      refine ⟨true, rfl, ?_⟩
      rw [if_pos rfl]
      simp only [Option.bind_eq_some_iff, Prod.exists, Option.some.injEq, Prod.mk.injEq] at h2
      obtain ⟨rs', ρ2, e4, ds', e5, r2', e6, rfl, rfl⟩ := h2
      have B : tA G [mc] σ H' fun ws H4 => ∀ w, ws = [w] → r2 G.K g y w H4 Q := by
        refine ⟨O', φ', ρ1, rs', ρ2, s2, e4, fun ws H4 O4 φ4 s4 t4 q4 w ew => ?_⟩
        subst ew
        have q1' := RpAs.tr s2 t4 (RpAs.tr s1 t2 q1)
        have q5 : RpAs G O4 σ H4 [y, w] (rs.drop 1 ++ rs') := by
          cases q1' with
          | val _ q => cases q with
            | val r0 q => cases q; exact .val r0 q4
            | sl r0 q => cases q; exact .sl r0 q4
          | sl _ q => cases q with
            | val r0 q => cases q; exact .val r0 q4
            | sl r0 q => cases q; exact .sl r0 q4
        exact ⟨O4, ds', _, s4.trk, peeks_ok s4 q5 e5, e6, fun ns => res_ok s4 (fun v H5 O5 φ5 s5 t5 q6 => h3 v H5 O5 φ5 s5 (((t1.trans t2).trans t4).trans t5) (q6.back ((t1.trans t2).trans t4).dom)) ns⟩
      exact (tA_one B).mono fun w H4 z => z w rfl
    · have q2 : Rp G.K O' H' v (.bl false) := q2
      cases q2
      cases h2
      refine ⟨false, rfl, ?_⟩
      rw [if_neg Bool.false_ne_true]
      exact h3 _ H' O' φ' s2 (t1.trans t2) (Rp.bl false)
    · cases h2
  exact (tA_two A).mono fun x H1 q => q.mono fun y H2 z => z x y rfl
theorem x_chain {f g : List D → Option R} {c : Expr} {mc : M} {op op' : CmpOp} (ho : OpR X (compareOp op) (r2 X.K f)) (ho' : OpR X (compareOp op') (r2 X.K g)) (ha : XE X a ma) (hb : XE X b mb) (hc : XE X c mc) (hm : lastMarks [op, op'] [b, c] = false := by with_unfolding_all rfl) :
    XE X (.Compare a [op, op'] [b, c] pos) (chainS f g ma mb mc) := fun G hG => (pe_chain ho ho' (ha G hG) (hb G hG) (hc G hG) hm).imp fun σ H Q h => by
  rw [← hG]; exact chain_t h
theorem t_chain {f g : List D → Option R} {c : Expr} {mc : M} {op op' : CmpOp} (ho : OpR X (compareOp op) (r2 X.K f)) (ho' : OpR X (compareOp op') (r2 X.K g)) (ha : XE X a ma) (hb : XE X b mb) (hc : XE X c mc) (hm : lastMarks [op, op'] [b, c] = false := by with_unfolding_all rfl) :
    XT X (.Compare a [op, op'] [b, c] pos) (valT (chainS f g ma mb mc)) := fun G hG => (pt_chain ho ho' (ha G hG) (hb G hG) (hc G hG) hm).imp fun σ H Q h => by
  rw [← hG]; exact chain_t (valT_t h)

/-! ### sorted -/
theorem c_sortI : CallR X (.builtin "sorted") (rOp X.K fSortI) := fun pins s σ H vs us Q I rr h => by
  obtain ⟨O, ds, r, tr, p, e, k⟩ := h
  unfold fSortI at e
  split at e
  · rename_i l
    simp only [Option.bind_eq_some_iff] at e
    obtain ⟨is, e1, e2⟩ := e
    obtain ⟨v, rfl, p1⟩ := p.one
    obtain ⟨a, xs, rfl, sq, rs⟩ := p1.lst
    obtain ⟨rfl, _⟩ := rs.of_ints e1
    refine cr_sortedI pins s σ H _ us Q I rr ⟨a, is, rfl, .of sq, fun ns' p hp1 hp2 hp => ?_⟩
    rw [sortI_eq hp1 hp2]
    exact res_l k e2 hp (Rps.ints _)
  · cases e
/-- set(xs) of ints, walked by sorted at once -/
theorem c_setL (hc : X.calm = true) : CallR X (.type "set") (fun vs H Q => ∃ (a : Addr) (ns : List Int), vs = [.ref a] ∧ H a = some (.lst (ns.map V.int)) ∧ ns.length < 64 ∧ ∀ (p : Addr) (c : Nat), H p = none → c ≤ ns.length → Q (.ref p) (upd H p (SetO X.w p (fun j => decide (j ∈ ns)) c))) := fun pins s σ H vs us Q I rr h => by
  obtain ⟨a, ns, rfl, ha, few, q⟩ := h
  obtain ⟨u, rfl, rx⟩ := vals1 rr
  cases rx
  obtain ⟨its, rv, pl, hz⟩ := I.list (SqL.of ha)
  refine call_setL ns (I.ok.hd hc) pl.isList (by simpa using intsAre_of rv) (by unfold scanBound; omega) fun h' tk c R hcn kp => ?_
  exact ⟨.ref s.heap.objs.size, _, I.laid (t' := tk) kp (Nat.le_refl _) (setO_new R), rfl, q _ c (I.hok.fresh (Nat.le_refl _)) hcn⟩
theorem x_sortSet {p q pos2 : Pos} {f g : Str} (hc : X.calm = true) (he : XE X e m) (hf : f = "sorted") (hg : g = "set") (gf : Gl X f) (mf : X.mg f = none) (gg : Gl X g) (mg : X.mg g = none)
    (hs : starEach [e] X.env = (false, eval e X.env) :: starEach [] X.env := by rfl) (hs2 : starEach [.Call (.Name g q) [e] [] pos2] X.env = (false, eval (.Call (.Name g q) [e] [] pos2) X.env) :: starEach [] X.env := by rfl)
    (hpl : (backTo pos (starEach [] X.env)).any (·.1) = false := by rfl) (hpl2 : (backTo pos2 (starEach [] X.env)).any (·.1) = false := by rfl) :
    XE X (.Call (.Name f p) [.Call (.Name g q) [e] [] pos2] [] pos) (opS fSortSet [m]) := fun G hG => by
  subst hf hg
  refine (pe_callB (cr_sortedSet hc) gf mf (by decide +kernel) (pa_cons (pe_callTy (c_setL hc) gg mg (by decide +kernel) (pa_cons (he G hG) pa_nil hs) (by decide) (by decide) hs hpl2) pa_nil hs2) (by decide) (by decide) hs2 hpl).imp fun σ H Q h => ?_
  refine (tA_one (op_t h)).mono fun v H1 hz => ?_
  obtain ⟨O, ds, r, tr, p, e1, k⟩ := hz
  unfold fSortSet at e1
  split at e1
  · rename_i l
    simp only [Option.bind_eq_some_iff] at e1
    obtain ⟨is, e2, e3⟩ := e1
    split at e3
    · rename_i few
      obtain ⟨w, e4, p1⟩ := p.one
      cases e4
      obtain ⟨a, xs, rfl, sq, rs⟩ := p1.lst
      obtain ⟨rfl, _⟩ := rs.of_ints e2
      refine ⟨a, is, rfl, sq, few, fun p c hp hcn => ⟨p, _, c, rfl, upd_same, by omega, fun ns p2 h1 h2 h3 hp2 => ?_⟩⟩
      have e5 : ns = sortI (dedI is) := sortSet_eq (fun j => (h2 j).trans (by simp)) h1
      subst e5
      cases e3
      have ne : p2 ≠ p := fun z => by rw [z, upd_same] at hp2; cases hp2
      have hp2' : H1 p2 = none := by rw [upd_ne ne] at hp2; exact hp2
      have s1 : Same H1 (upd (upd H1 p (SetO X.w p (fun j => decide (j ∈ is)) c)) p2 (.lst ((sortI (dedI is)).map V.int))) := fun b o z => by
        rw [upd_ne (ne_of_none z hp2'), upd_ne (ne_of_none z hp)]
        exact z
      exact k rfl p2 [p2] _ s1 (by simpa using hp2') (.lst upd_same (Rps.ints _))
    · cases e3
  · cases e1

/-! ### list(range(..)) -/
theorem rg_eq (a b : Int) : rgV a b = (List.range (b - a).toNat).map fun i => V.int (a + (i : Nat)) := rfl
theorem Rps.rng {K : PySem.W.Frag} {O : Addr → Prop} {H : Hp} (lo : Int) (n : Nat) : Rps K O H ((List.range n).map fun i => V.int (lo + (i : Nat))) (rngD lo n) := by
  unfold rngD
  induction List.range n with
  | nil => exact .nil
  | cons i r ih => exact .cons (.int _) ih
theorem x_listRng2 {p q pos2 : Pos} {f g : Str} (hc : X.calm = true) (ha : XE X a ma) (hb : XE X b mb) (hf : f = "list") (hg : g = "range") (gf : Gl X f) (mf : X.mg f = none) (gg : Gl X g) (mg : X.mg g = none)
    (na : starEach [a, b] X.env = (false, eval a X.env) :: starEach [b] X.env := by rfl) (nb : starEach [b] X.env = (false, eval b X.env) :: starEach [] X.env := by rfl) (hp : (backTo pos2 (starEach [b] X.env)).any (·.1) = false := by rfl)
    (ne : starEach [.Call (.Name g q) [a, b] [] pos2] X.env = (false, eval (.Call (.Name g q) [a, b] [] pos2) X.env) :: starEach [] X.env := by rfl) :
    XE X (.Call (.Name f p) [.Call (.Name g q) [a, b] [] pos2] [] pos) (opS fListRng [ma, mb]) := fun G hG => by
  subst hf hg
  refine (pe_listRg hc gf mf (prg_2 gg mg (ha G hG) (hb G hG) na nb hp) ne).imp fun σ H Q h => ?_
  refine (tA_two (op_t h)).mono fun x H1 q => q.mono fun y H2 hz => ?_
  obtain ⟨O, ds, r, tr, p, e1, k⟩ := hz
  unfold fListRng rngF at e1
  simp only [Option.bind_eq_some_iff] at e1
  obtain ⟨l, e2, e3⟩ := e1
  split at e2
  · obtain ⟨v, e4, _⟩ := p.one
    cases e4
  · rename_i i j
    split at e2
    · rename_i hb
      cases e2
      split at e3
      · rename_i hl
        obtain ⟨u, v, e4, p1, p2⟩ := p.two
        cases e4
        have bb := and_ok hb
        have hl' : (j - i).toNat ≤ 2 ^ 24 := by simpa [rngD, lim] using hl
        refine ⟨i, j, p1.int, p2.int, ⟨bb.1.1, bb.1.2, bb.2.1, bb.2.2, hl'⟩, fun p hp => ?_⟩
        rw [rg_eq]
        exact res_l k e3 hp (Rps.rng i _)
      · cases e3
    · cases e2
  · cases e2
end
end Al
end
section
namespace Al
open PySem PySem.Spec PyProof.Rows L2

section
variable {X : Cx} {G : Gx} {e o : Expr} {m mo : M} {ms : List M} {pos p2 : Pos}
theorem Rp.tupTy {pins : List (Addr × Obj)} {σ : L2.St} {H : Hp} {s : Shared} {O : Addr → Prop} {x : V} {v : Value} {l : List D} (I : Inv X pins σ H s) (r : RelV x v) (h : Rp X.K O H x (.tup l)) :
    s.TypeIs v "tuple" ∧ ∀ a, v = .ref a → ∃ ob, s.heap.get? a = some ob ∧ ob.dict = none := by
  cases h with
  | tup h hd n q =>
    cases r
    obtain ⟨e, k⟩ := I.hok _ _ h
    obtain ⟨_, its, _, o', e', c', _⟩ := k
    rw [e] at e'
    cases e'
    exact ⟨⟨_, e, c'⟩, fun a z => by cases z; exact ⟨_, e, hd⟩⟩
  | tupK h q =>
    cases r
    obtain ⟨o, its, n, h1, h2, _⟩ := h
    have e := I.kIn _ _ h1
    exact ⟨⟨_, e, h2.1⟩, fun a z => by cases z; exact ⟨_, e, h2.2⟩⟩
theorem count_py {d : D} : ∀ {l : List D}, plain d = true → l.all plain = true → ((D.pys l).countP fun z => PyData.eqv z d.py) = l.countP fun e => D.eqv e d
  | [], _, _ => rfl
  | x :: l, hd, hl => by
    rw [List.all_cons, Bool.and_eq_true] at hl
    rw [D.pys, List.countP_cons, List.countP_cons, count_py hd hl.2, py_eqv 60 hl.1 hd]
theorem count_by_data {s : Shared} {vs : Array Value} {xs : List PyData} {as : List Addr} {d : PyData} (rs : ReadsAll s.heap vs.toList xs as) (hxs : PyData.canLayAll0 xs = true) :
    vs.toList.countP (fun y => PyData.eqv (SeqAt.readOf s.heap y) d) = xs.countP (fun y => PyData.eqv y d) := by
  rw [← SeqAt.readsAll_map xs _ _ hxs rs, List.countP_map]
  rfl
theorem x_cnt {name : Str} {apos : Pos} (hu : X.A.units + 65 < cLine) (hname : name = "count") (ho : XE X o mo) (he : XE X e m)
    (hbase : attributeBase o name X.env (eval o X.env) = eval o X.env := by rfl)
    (hfew : ((backTo pos (starEach [e] X.env)).all (fun x => !x.1) && (backToKw pos (keywordEach [] X.env)).all (fun x => x.1.isSome)
      && decide ([e].length + ([] : List Keyword).length + (if ([] : List Keyword).isEmpty then 0 else 1) < 30)) = true := by rfl)
    (hline : (apos.endLine == pos.line) = true := by rfl) (hs : starEach [e] X.env = (false, eval e X.env) :: starEach [] X.env := by rfl) :
    XE X (.Call (.Attribute o name apos) [e] [] pos) (cntS mo m) := fun G hG => by
  subst hname
  refine ⟨fun pins s σ H Q I h => ?_⟩
  obtain ⟨O, φ, ρ, r, ρ', h1, h2, h3⟩ := h
  simp only [cntS, Option.bind_eq_some_iff, Prod.exists] at h2
  obtain ⟨r1, ρ1, e1, h2⟩ := h2
  split at h2
  case h_2 => cases h2
  rename_i l
  refine wpAny_Call_method_late hbase hfew hline rfl (thn ((ho G hG).run pins s σ H _ I ⟨O, φ, ρ, _, ρ1, h1, e1, fun v H1 O1 φ1 s1 t1 q1 => (⟨O1, φ1, s1, t1, q1⟩ : ∃ O1 φ1, St G O1 φ1 σ ρ1 H1 ∧ Tr φ ρ O H φ1 ρ1 O1 H1 ∧ Rp G.K O1 H1 v (.tup l))⟩) fun v s1 ⟨x, H1, I1, rx, O1, φ1, S1, T1, q1⟩ => ?_)
  obtain ⟨ht1, hd1⟩ := Rp.tupTy I1 rx (hG ▸ q1)
  refine ⟨"tuple", "tuple.count", PySem.F.plainAttrs_tuple, PySem.F.slot_tuple_count, PySem.F.type_tuple_count, ht1, hd1, ?_⟩
  -- the argument
  simp only [opS, Option.bind_eq_some_iff, Option.some.injEq, Prod.exists] at h2
  obtain ⟨rs, ρ2, e2, ds, e3, r', e4, e5⟩ := h2
  cases e5
  have hA := (xa_cons he xa_nil (hs := hs) G hG).run pos pins s1 σ H1 (fun vs H2 => ∃ O2 φ2, St G O2 φ2 σ ρ' H2 ∧ Tr φ1 ρ1 O1 H1 φ2 ρ' O2 H2 ∧ RpAs G O2 σ H2 vs rs) I1 ⟨O1, φ1, ρ1, rs, ρ', S1, e2, fun vs H2 O2 φ2 s2 t2 q2 => ⟨O2, φ2, s2, t2, q2⟩⟩
  rw [hs] at hA ⊢
  refine Calls.callWith_builtin (by rfl) (Calls.evalArgs_plain ?_)
  refine thn hA fun us s2 ⟨vs, H2, I2, r2, O2, φ2, S2, T2, q2⟩ => ?_
  have qx := S1.toSl.rp T2 q1
  have pk := peeks_ok S2 q2 e3
  unfold fCount at e4
  split at e4
  case h_2 => cases e4
  rename_i d
  split at e4
  case isFalse => cases e4
  case isTrue hp =>
  rw [Bool.and_eq_true] at hp
  obtain ⟨y, rfl, py⟩ := pk.one
  obtain ⟨u, rfl, ry⟩ := r2.one
  rw [hG] at qx py
  obtain ⟨as, ra⟩ := Dp.reads I2 _ _ v (Pk.dpT (.inl qx) hp.2) rx
  obtain ⟨bs, rb⟩ := Dp.reads I2 _ _ u (py.dp hp.1) ry
  cases ra with
  | @tuple a ob its n xs as g1 g2 g3 g4 =>
    obtain ⟨cls, dd, data, sl⟩ := ob
    simp only at g2 g3
    subst g2 g3
    have cl := SeqAt.canLay_of_shaped (plain_shaped hp.1)
    have ea := SeqAt.items_eqAt (A := X.A) g4 rb (all_lay hp.2) cl (room_in_shaped (plain_shaped hp.1) hu)
    refine call_meets PySem.F.slot_tuple_count ⟨_, g1, rfl⟩ PySem.F.entry_tuple_count (PySem.F.args_tuple_count_2 _ _) (SeqAt.tuple_countAt a its n dd sl u _) ⟨g1, ea, .int (List.countP (fun e => D.eqv e d) l : Nat), H2, I2.tok _, ⟨s2.toks, ?_⟩, ?_⟩
    · rw [count_by_data g4 (all_lay hp.2), count_py hp.1 hp.2]
    · exact h3 _ H2 O2 φ2 S2 (T1.trans T2) (by cases e4; exact .int _)
end
end Al
end
section
/-! What a generated text needs beside the rules. -/
namespace Al
open PySem PySem.Spec PyProof.Rows L2

/-- a def of the module, as it stands behind the top -/
def Df (K : PySem.W.Frag) (mg : Str → Option Value) (x : Str) (ps : List Str) (st : Stmt) : Prop :=
  ∃ a fd, Fun K x x st a fd ∧ mg x = some (.ref a) ∧ Binds K fd ps []
/-- a def that does what f says -/
def Cal (P : Program) (w : World) (K : PySem.W.Frag) (mg : Str → Option Value) (base : Heap) (x : Str) (ps : List Str) (k : Nat) (f : F) : Prop :=
  ∃ a fd, FnOk P w K mg base CX0 k a fd ps (spF K f) ∧ mg x = some (.ref a) ∧ PySem.W.keepIn K (.ref a) = true ∧ Binds K fd ps []
theorem Cal.mk {P : Program} {w : World} {K : PySem.W.Frag} {mg : Str → Option Value} {base : Heap} {x : Str} {st : Stmt} {N ps : List Str} {k ar n : Nat} {m : MS} (D : Df K mg x ps st) (S : FnScope N ps (defScope st))
    (hbody : ∀ (f : Addr) (cdv : Value) (A : Around) (outer : List Env) (s : Shared) (H : Hp) (E : XK), Room k (A.deeper (envOfC x (defScope st) s.heap.objs.size f cdv)) → XSs (cxOf CX0 P w K mg base N x (defScope st) f cdv A outer s H E).nox (defBody st) m)
    (hn : N.length = n := by rfl) (ha : ps.length = ar := by rfl) (hle : ar ≤ n := by decide) : Cal P w K mg base x ps (k + 1) (run ar n m) := by
  obtain ⟨a, fd, F, hm, hb⟩ := D
  exact ⟨a, fd, fun_ok F S hn ha hle (fun cdv A outer s H E hr => hbody a cdv A outer s H E hr), hm, F.kp, hb⟩
theorem Cal.zero {P : Program} {w : World} {K : PySem.W.Frag} {mg : Str → Option Value} {base : Heap} {x : Str} {st : Stmt} {ps : List Str} {k : Nat} (D : Df K mg x ps st) : Cal P w K mg base x ps k (fun _ => none) := by
  obtain ⟨a, fd, F, hm, hb⟩ := D
  have no : ∀ vs H Q E, ¬ spF K (fun _ => none) vs H Q E := fun vs H Q E h => by
    obtain ⟨O, φ, as, r, os, h1, h2, _⟩ := h
    cases h2
  exact ⟨a, fd, ⟨fun vs H Q E h => absurd h (no vs H Q E), fun A outer s H args us vs Q E _ _ _ _ h => absurd h (no vs H Q E)⟩, hm, F.kp, hb⟩
theorem df_mk {K : PySem.W.Frag} {h : Heap} {mg : Str → Option Value} {x : Str} {ps : List Str} {st : Stmt} {f : Addr} {oc : Value} {od an : Option Addr} {osl : Array (Option Value)} {kV doc pm cdv ct : Value} (X : K.In h) (G : h.Ns mainGlobals mg) 
    (a : PySem.W.nsIn K mainGlobals x = some (some (.ref f)))
    (l : K.lookup f = some ⟨oc, od, .func (PySem.W.fnOf x x (defArgs st) (defBody st) (defScope st) .none kV doc pm an cdv ct), osl⟩) (c : PySem.W.codeIn K cdv x = true) (k : PySem.W.keepIn K (.ref f) = true)
    (b : ∀ (kV doc pm : Value) (an : Option Addr) (cdv ct : Value) (us : List Value), us.length = ps.length → bindArgs (PySem.W.fnOf x x (defArgs st) (defBody st) (defScope st) .none kV doc pm an cdv ct) ⟨us, []⟩ = pure (ps.zip us)) : Df K mg x ps st :=
  ⟨f, _, fun_mk l c k, PySem.W.mg_of X G a, (fun_mk l c k).binds b⟩

theorem hu5_of {A : Around} {k : Nat} (hr : Room k A) : A.units + 65 < cLine := by have := hr.un; omega
section
variable {X : Cx} {f : F} {ps : List Str} {k k' : Nat} {x : Str} {p pos : Pos} {e : Expr} {es : List Expr} {ms : List M}
theorem xc_P (C : Cal X.prog X.w X.K X.mg X.base x ps k f) (hr : Room k' X.A) (hg : Gl X x) (ha : XA X (e :: es) ms) (hle : k ≤ k' := by omega)
    (hdb : (x == ("__debug__" : Str)) = false := by decide) (he : starEach (e :: es) X.env = (false, eval e X.env) :: starEach es X.env := by rfl) (hpl : (backTo pos (starEach es X.env)).any (·.1) = false := by rfl) :
    XE X (.Call (.Name x p) (e :: es) [] pos) (callP f ms) := by
  obtain ⟨a, fd, F, hm, hk, hb⟩ := C
  exact x_callP F (hr.mono hle) hg hm hk hb ha hdb he hpl
theorem xc_S (io : List Bool) (C : Cal X.prog X.w X.K X.mg X.base x ps k f) (hr : Room k' X.A) (hg : Gl X x) (ha : XA X (e :: es) ms) (hle : k ≤ k' := by omega)
    (hdb : (x == ("__debug__" : Str)) = false := by decide) (he : starEach (e :: es) X.env = (false, eval e X.env) :: starEach es X.env := by rfl) (hpl : (backTo pos (starEach es X.env)).any (·.1) = false := by rfl) :
    XE X (.Call (.Name x p) (e :: es) [] pos) (callS f io ms) := by
  obtain ⟨a, fd, F, hm, hk, hb⟩ := C
  exact x_callS F (hr.mono hle) hg hm hk hb ha hdb he hpl
theorem x_gint {i : Int} (h : ∃ t, X.mg x = some (.int i t)) (hg : Gl X x) (hd : (x == ("__debug__" : Str)) = false := by decide) : XE X (.Name x pos) (cS (.int i)) := by
  obtain ⟨t, h⟩ := h
  exact x_glob hg h (v := .int i) ⟨t, rfl⟩ (fun _ _ => .int i) hd
theorem x_gstr {i : Str} (h : ∃ t, X.mg x = some (.str i t)) (hg : Gl X x) (hd : (x == ("__debug__" : Str)) = false := by decide) : XE X (.Name x pos) (cS (.str i)) := by
  obtain ⟨t, h⟩ := h
  exact x_glob hg h (v := .str i) ⟨t, rfl⟩ (fun _ _ => .str i) hd
theorem rps_strs {K : PySem.W.Frag} {O : Addr → Prop} {H : Hp} : ∀ ss : List Str, Rps K O H (ss.map V.str) (ss.map D.str)
  | [] => .nil
  | s :: ss => .cons (.str s) (rps_strs ss)
theorem x_gstrs {ss : List Str} {ds : List D} (h : ∃ a, X.mg x = some (.ref a) ∧ KT X.K a (ss.map V.str)) (hg : Gl X x) (hds : ss.map D.str = ds := by rfl) (hd : (x == ("__debug__" : Str)) = false := by decide) : XE X (.Name x pos) (cS (.tup ds)) := by
  obtain ⟨a, h, q⟩ := h
  subst hds
  exact x_glob hg h (v := .ref a) rfl (fun O H => .tupK q (rps_strs ss)) hd
theorem kt2 {K : PySem.W.Frag} {h : Heap} {mg : Str → Option Value} {a : Addr} {n : Nat} {t1 t2 : Tok} {s1 s2 : Str} {sl : Array (Option Value)} (X : K.In h) (G : h.Ns mainGlobals mg) (g : PySem.W.nsIn K mainGlobals x = some (some (.ref a)))
    (l : K.lookup a = some ⟨.type "tuple", none, .seq #[.str s1 t1, .str s2 t2] n, sl⟩) : ∃ a, mg x = some (.ref a) ∧ KT K a ([s1, s2].map V.str) :=
  ⟨a, PySem.W.mg_of X G g, _, _, n, l, ⟨rfl, rfl⟩, rfl, (show 2 ≤ sizeLine by decide), .cons ⟨t1, rfl⟩ (.cons ⟨t2, rfl⟩ .nil)⟩
theorem gint_mk {K : PySem.W.Frag} {h : Heap} {mg : Str → Option Value} {i : Int} {t : Tok} (X : K.In h) (G : h.Ns mainGlobals mg) (g : PySem.W.nsIn K mainGlobals x = some (some (.int i t))) : ∃ t, mg x = some (.int i t) := ⟨t, PySem.W.mg_of X G g⟩
end
theorem boot_abs' : bootBuiltins "abs" = some (.builtin "abs") := by decide +kernel
theorem boot_len' : bootBuiltins "len" = some (.builtin "len") := by decide +kernel
theorem boot_min' : bootBuiltins "min" = some (.builtin "min") := by decide +kernel
theorem boot_max' : bootBuiltins "max" = some (.builtin "max") := by decide +kernel
theorem boot_all' : bootBuiltins "all" = some (.builtin "all") := by decide +kernel
theorem boot_any' : bootBuiltins "any" = some (.builtin "any") := by decide +kernel
theorem boot_sorted' : bootBuiltins "sorted" = some (.builtin "sorted") := by decide +kernel
theorem boot_int' : bootBuiltins "int" = some (.type "int") := by decide +kernel
theorem boot_tuple' : bootBuiltins "tuple" = some (.type "tuple") := by decide +kernel
theorem boot_list' : bootBuiltins "list" = some (.type "list") := by decide +kernel
/-- what law(script) promises: for a list of at most 63 ints the answer is True -/
def spLaw (K : PySem.W.Frag) : Sp := fun vs H Q _ => ∃ (a : Addr) (ns : List Int), vs = [.ref a] ∧ SqL K H a (ns.map V.int) ∧ ns.length ≤ 63 ∧ ∀ H', Q (.bl true) H'
theorem spLaw_of {K : PySem.W.Frag} {f : F} (h : ∀ ns : List Int, ns.length ≤ 63 → lawF f ns) (vs : List V) (H : Hp) (Q : VK) (E : XK) (q : spLaw K vs H Q E) : spF K f vs H Q E := by
  obtain ⟨a, ns, rfl, hS, hl, k⟩ := q
  obtain ⟨os, e⟩ := h ns hl
  have r : Rp K (fun _ => False) H (.ref a) (.frz (ns.map .int)) := by
    rcases hS with hS | hS
    · exact .frz hS (fun z => z) (.ints ns)
    · exact .frzK hS (.ints ns)
  refine ⟨fun _ => False, fun _ => [], _, _, os, ⟨rfl, ?_, ?_, ?_, fun b z => z.elim⟩, e, fun v H' O' φ' s t i p => ?_⟩
  · intro i d hi
    match i, hi with
    | 0, hi =>
      cases hi
      exact ⟨_, rfl, r⟩
  · intro i p d hi
    match i, hi with
    | 0, hi => cases hi
  · intro i j p q d e hi
    match i, hi with
    | 0, hi => cases hi
  · have p : Rp K O' H' v (.bl true) := p
    cases p
    exact k H'
theorem law_ok {P : Program} {w : World} {K : PySem.W.Frag} {mg : Str → Option Value} {base : Heap} {st : Stmt} {N ps : List Str} {k ar n : Nat} {m : MS} {a : Addr} {fd : FuncData} (F : Fun K "law" "law" st a fd) (S : FnScope N ps (defScope st))
    (hbody : ∀ (f : Addr) (cdv : Value) (A : Around) (outer : List Env) (s : Shared) (H : Hp) (E : XK), Room k (A.deeper (envOfC "law" (defScope st) s.heap.objs.size f cdv)) → XSs (cxOf CX0 P w K mg base N "law" (defScope st) f cdv A outer s H E).nox (defBody st) m)
    (hL : ∀ ns : List Int, ns.length ≤ 63 → lawF (run ar n m) ns)
    (hn : N.length = n := by rfl) (ha : ps.length = ar := by rfl) (hle : ar ≤ n := by decide) : FnOk P w K mg base CX0 (k + 1) a fd ps (spLaw K) :=
  (fun_ok F S hn ha hle (fun cdv A outer s H E hr => hbody a cdv A outer s H E hr)).imp (spLaw_of hL)
theorem law_mk {P : Program} {w : World} {K : PySem.W.Frag} {h : Heap} {mg : Str → Option Value} {fa f : Addr} {oc : Value} {od an : Option Addr} {osl : Array (Option Value)} {kV doc pm cdv ct : Value} {st : Stmt} {k : Nat} (X : K.In h) (G : h.Ns mainGlobals mg) (hfa : mg "law" = some (.ref fa))
    (a : PySem.W.nsIn K mainGlobals "law" = some (some (.ref f)))
    (l : K.lookup f = some ⟨oc, od, .func (PySem.W.fnOf "law" "law" (defArgs st) (defBody st) (defScope st) .none kV doc pm an cdv ct), osl⟩) (c : PySem.W.codeIn K cdv "law" = true) (kp : PySem.W.keepIn K (.ref f) = true)
    (b : ∀ (s : Shared) (v : Value) (kV doc pm : Value) (an : Option Addr) (cdv ct : Value), BindsTo s (PySem.W.fnOf "law" "law" (defArgs st) (defBody st) (defScope st) .none kV doc pm an cdv ct) ⟨[v], []⟩ [("script", v)])
    (hF : ∀ (base : Heap) (fd : FuncData), Fun K "law" "law" st fa fd → FnOk P w K mg base CX0 k fa fd ["script"] (spLaw K)) :
    ∃ fd : FuncData, (∀ (s : Shared) (v : Value), BindsTo s fd ⟨[v], []⟩ [("script", v)]) ∧ ∀ base : Heap, K.In base → base.Ns mainGlobals mg → FnOk P w K mg base CX0 k fa fd ["script"] (spLaw K) := by
  have e := hfa.symm.trans (PySem.W.mg_of X G a)
  cases e
  exact ⟨_, fun s v => b s v _ _ _ _ _ _, fun base _ _ => hF base _ (fun_mk l c kp)⟩
theorem law_walk {k : Nat} {l : PySem.W.OpenLaw} {q : Program} {loose : List Str} {XP : (Str → Option Value) → Heap → Prop} {YP : World → Heap → Prop} {d : DefRec} {K : Params → PySem.W.Frag} (hn : l.most = some 63) (hdf : d.params.defaults = []) (hr : Room k callerA)
    (hY : ∀ (w : World) (h : Heap), YP w h → (K w.params).In h)
    (F : ∀ (w : World) (mg : Str → Option Value) (fa : Addr) (h : Heap), (K w.params).In h → h.Ns mainGlobals mg → mg d.name = some (.ref fa) →
      ∃ fd : FuncData, (∀ (s : Shared) (u : Value), BindsTo s fd ⟨[u], []⟩ [("script", u)]) ∧ ∀ base : Heap, (K w.params).In base → base.Ns mainGlobals mg → FnOk l.prog w (K w.params) mg base CX0 k fa fd ["script"] (spLaw (K w.params))) :
    PySem.W.WalkO q loose XP YP l.row.toRowW d [] (fun f vs => PySem.call f vs) :=
  L2.walk_of (n := 63) (k := k) (x := "script") (CX := fun _ => CX0) (sp := fun w => spLaw (K w.params)) hn (by decide) hdf hr hY F (fun _ _ a ns hl _ hS => ⟨a, ns, rfl, hS, hl, fun _ => rfl⟩) fun _ _ _ _ _ z => z
end Al
end
section
namespace Al
open PySem PySem.Spec PyProof.Rows L2

section
variable {X : Cx} {G : Gx} {pos : Pos} {e : Expr} {es : List Expr} {m : M} {ms : List M}
theorem feed_rngC {K : PySem.W.Frag} {lo c : Int} {n : Nat} : Feed false K [] (fun _ _ => True) (Itc lo c n) (rngCD lo c n) where
  stop := fun O H _ => by show n ≤ _; simp [rngCD]
  go := fun O H i _ hi => by
    have : i < n := by simpa [rngCD] using hi
    exact this
  yld := fun O H i x H' hi _ y => by
    have hn : i < n := by simpa [rngCD] using hi
    obtain ⟨rfl, rfl⟩ := y
    refine ⟨fun _ _ e => e, .int (lo + (i : Nat) * c), ?_, .inl (.int _)⟩
    unfold rngCD
    rw [List.getElem?_map, List.getElem?_range hn] <;> rfl
  mono := fun _ _ _ _ _ _ _ _ => trivial
theorem rgC_of {i j c : Int} (hi : -(2 ^ 62) ≤ i ∧ i < 2 ^ 62) (hj : -(2 ^ 62) ≤ j ∧ j < 2 ^ 62) (hc : c ≠ 0 ∧ c.natAbs < 1073741824) : RgC i j c (cntC i j c) := by
  have e62 : (2 : Int) ^ 62 = 4611686018427387904 := by decide
  have e63 : (2 : Int) ^ 63 = 9223372036854775808 := by decide
  rw [e62] at hi hj
  have sz : 0 ≤ Builtin.Range.rangeSize i j c ∧ Builtin.Range.rangeSize i j c ≤ 9223372036854775807 := by
    unfold Builtin.Range.rangeSize
    split
    · split
      · have a1 : 0 ≤ (j - i - 1) / c := Int.ediv_nonneg (by omega) (by omega)
        have a2 : (j - i - 1) / c ≤ (j - i - 1) := Int.ediv_le_self _ (by omega)
        omega
      · omega
    · split
      · have a1 : 0 ≤ (i - j - 1) / (-c) := Int.ediv_nonneg (by omega) (by omega)
        have a2 : (i - j - 1) / (-c) ≤ (i - j - 1) := Int.ediv_le_self _ (by omega)
        omega
      · omega
  refine ⟨hc.1, hc.2, ?_, ?_⟩
  · unfold Builtin.Range.small Builtin.Range.rangeFitsLong
    simp only [Bool.and_eq_true, Bool.or_eq_true, decide_eq_true_eq, e63]
    refine ⟨⟨⟨⟨by omega, by omega⟩, by omega⟩, by omega⟩, .inr ?_⟩
    split <;> (simp only [Bool.and_eq_true, decide_eq_true_eq]; omega)
  · show _ = ((Int.toNat (Builtin.Range.rangeSize i j c) : Nat) : Int)
    omega
theorem i_rng3 {tg a b c : Expr} {p : Pos} (hg : Gl X "range") (hm : X.mg "range" = none) (ha : XA X [a, b, c] ms) (hml : ms.length = 3 := by rfl)
    (hs : starEach [a, b, c] X.env = (false, eval a X.env) :: starEach [b, c] X.env := by rfl) (hpl : (backTo pos (starEach [b, c] X.env)).any (·.1) = false := by rfl) : XI X tg (.Call (.Name "range" p) [a, b, c] [] pos) false (srcK rngF3 ms) := fun G hG =>
  PI.imp (pi_range3 hg hm (ha G hG) hs hpl) fun σ H R q => by
    obtain ⟨O, φ, ρ, xs, o, ρ', h1, h2, h3⟩ := q
    simp only [srcK, Option.bind_eq_some_iff, Prod.exists, Option.some.injEq, Prod.mk.injEq] at h2
    obtain ⟨rs, ρ1, e1, ds, ρ2, e2, l, e3, rfl, rfl, rfl⟩ := h2
    refine ⟨O, φ, ρ, rs, ρ1, h1, e1, fun vs H1 O1 φ1 s1 t1 q1 => ?_⟩
    obtain ⟨O2, s2, t2, q2⟩ := forces_ok s1 q1 e2
    unfold rngF3 at e3
    split at e3
    · rename_i i j k
      split at e3
      · rename_i hj
        rw [Bool.and_eq_true, decide_eq_true_eq] at hj
        cases e3
        cases q2 with
        | cons r0 r1 =>
          cases r0
          cases r1 with
          | cons r2 r3 =>
            cases r2
            cases r3 with
            | cons r4 r5 =>
              cases r4
              cases r5
              have b := and_ok hj.1
              exact ⟨i, j, k, _, rfl, rgC_of b.1 b.2 hj.2, h3 _ H1 O2 φ1 [] _ s2 (t1.trans t2) trivial feed_rngC rfl⟩
      · cases e3
    · cases e3

/-! ### a new object handed in -/
theorem callF_t {f : F} {σ : L2.St} {H : Hp} {Q : VK} {E : XK} (h : tM G (callF f m ms) σ H Q) : tM G m σ H fun v H1 => tA G ms σ H1 fun vs H2 => spF G.K f ((v :: vs) ++ []) H2 Q E := by
  obtain ⟨O, φ, ρ, r, ρ', h1, h2, h3⟩ := h
  simp only [callF, Option.bind_eq_some_iff, Prod.exists] at h2
  obtain ⟨r1, ρ1, e1, h2⟩ := h2
  split at h2
  case h_2 => cases h2
  rename_i d
  simp only [Option.bind_eq_some_iff, Prod.exists, Option.some.injEq, Prod.mk.injEq] at h2
  obtain ⟨rs, ρ2, e2, ds, ρ3, e3, r', os, e4, rfl, rfl⟩ := h2
  refine ⟨O, φ, ρ, .fr d, ρ1, h1, e1, fun v H1 O1 φ1 s1 t1 q1 => ?_⟩
  obtain ⟨a, fp, rfl, ro, q1⟩ := q1
  refine ⟨O1, φ1, ρ1, rs, ρ2, s1, e2, fun vs H2 O2 φ2 s2 t2 q2 => ?_⟩
  obtain ⟨O3, s3, t3, q3⟩ := forces_ok s2 q2 e3
  rw [List.append_nil]
  have T23 := t2.trans t3
  have ro3 : RpO G.K O3 H2 a d fp := ro.tr (s1.toSl.keeps T23) T23.own fun b hb o e => T23.keep b o e (q1 b hb).2.2
  have fpO : ∀ b ∈ fp, O3 b := fun b hb => T23.stay b (ro.there.2 b hb) (q1 b hb).1 (q1 b hb).2.2
  have fpn : ∀ b ∈ fp, ¬ Own φ2 ρ3 b := fun b hb z => (T23.mon b z).elim (q1 b hb).2.2 (ro.there.2 b hb)
  have fpH : ∀ b ∈ fp, H b = none := fun b hb => (q1 b hb).2.1
  let φa : Nat → List Addr := fun k => if k = 0 then fp else []
  have as0 : ∀ (i : Nat) p d', (S.ow true d :: ds.map S.fz)[i]? = some (.ow p d') → i = 0 ∧ p = true ∧ d' = d := fun i p d' e => by
    cases i with
    | zero => cases e; exact ⟨rfl, rfl, rfl⟩
    | succ i =>
      rw [List.getElem?_cons_succ, List.getElem?_map] at e
      cases q : ds[i]? with
      | none => rw [q] at e; cases e
      | some x => rw [q] at e; cases e
  have ownA : ∀ b, Own φa (S.ow true d :: ds.map S.fz) b → b ∈ fp := fun b ⟨i, p, d', e, hb⟩ => by
    obtain ⟨rfl, _, _⟩ := as0 i p d' e
    exact hb
  refine ⟨O3, φa, S.ow true d :: ds.map .fz, r', os, ⟨by rw [List.length_map, List.length_cons, List.length_cons, List.length_map, q3.length], fun i d' e => ?_, fun i p d' e => ?_, fun i j p q d1 d2 e e' ne => ?_, s3.trk⟩, e4, fun v H' O' φ' l t nw rn => ?_⟩
  · cases i with
    | zero => cases e
    | succ i =>
      rw [List.getElem?_cons_succ, List.getElem?_map] at e
      cases q : ds[i]? with
      | none => rw [q] at e; cases e
      | some x =>
        rw [q] at e
        cases e
        obtain ⟨v, ev, rv⟩ := q3.get q
        exact ⟨v, by rw [List.getElem?_map, List.getElem?_cons_succ, ev]; rfl, rv⟩
  · obtain ⟨rfl, rfl, rfl⟩ := as0 i p d' e
    exact ⟨a, rfl, ro3, fun b hb => fpO b hb⟩
  · obtain ⟨rfl, _, _⟩ := as0 i p d1 e
    obtain ⟨rfl, _, _⟩ := as0 j q d2 e'
    exact absurd rfl ne
  · have T := t1.trans T23
    have s4 : St G O' φ2 σ ρ3 H' := by
      refine ⟨⟨s3.len, fun i d e => ?_, fun i p d e => ?_, s3.dis, l.trk⟩, fun b z => t.dom b (s3.dom b z), fun b o e n => ?_, s3.own, s3.io, s3.mkd, s3.new⟩
      · obtain ⟨v, ev, r⟩ := s3.fz i d e
        exact ⟨v, ev, r.tr (fun b o z n => t.keep b o z fun y => n (fpO b (ownA b y))) t.own⟩
      · obtain ⟨a, ea, r, q⟩ := s3.ow i p d e
        refine ⟨a, ea, r.tr (fun b o z n => t.keep b o z fun y => n (fpO b (ownA b y))) t.own fun b hb o z => t.keep b o z fun y => fpn b (ownA b y) ⟨i, p, d, e, hb⟩, fun b hb => ?_⟩
        exact t.stay b (s3.trk b (q b hb)) (q b hb) fun y => fpn b (ownA b y) ⟨i, p, d, e, hb⟩
      · refine t.keep b o (s3.base b o e n) fun y => ?_
        have := h1.none0 (fpH b (ownA b y))
        rw [this] at e
        cases e
    have hn : ∀ b, H b ≠ none → ¬ Own φa (S.ow true d :: ds.map S.fz) b := fun b z y => z (fpH b (ownA b y))
    have t4 : Tr φ ρ O H φ2 ρ3 O' H' := ⟨fun b o e n => t.keep b o (T.keep b o e n) (hn b (by rw [e]; exact fun z => nomatch z)), fun b z => (t.own b z).elim (T.own b) fun q => .inr (by
        cases e : H b with
        | none => rfl
        | some o => exact absurd q (T.dom b (by rw [e]; exact fun z => nomatch z))), T.mon, fun b z => t.dom b (T.dom b z), fun b z o n => t.stay b (T.dom b z) (T.stay b z o n) (hn b z)⟩
    refine h3 v H' O' φ2 s4 t4 ?_
    cases r' with
    | val d => exact rn
    | sl i => exact rn.elim
    | fr d' =>
      obtain ⟨a', fp', e4, e5, e6⟩ := rn
      refine ⟨a', fp', e4, e5, fun b hb => ⟨(e6 b hb).1, ?_, fun z => s3.trk b (s3.sub z) (e6 b hb).2.1⟩⟩
      cases q : H b with
      | none => rfl
      | some o => exact absurd (e6 b hb).2.1 (T.dom b (by rw [q]; exact fun z => nomatch z))
theorem xc_F {f : F} {ps : List Str} {k k' : Nat} {x : Str} {p : Pos} (C : Cal X.prog X.w X.K X.mg X.base x ps k f) (hr : Room k' X.A) (hg : Gl X x) (hm : XE X e m) (ha : XA X es ms) (hle : k ≤ k' := by omega)
    (hdb : (x == ("__debug__" : Str)) = false := by decide) (he : starEach (e :: es) X.env = (false, eval e X.env) :: starEach es X.env := by rfl) (hpl : (backTo pos (starEach es X.env)).any (·.1) = false := by rfl) :
    XE X (.Call (.Name x p) (e :: es) [] pos) (callF f m ms) := fun G hG => by
  obtain ⟨a, fd, F, h1, hk, hb⟩ := C
  have q := pe_call (p := p) (pos := pos) (E := E0) (F.mono (Nat.le_refl _)) (hr.mono hle) hg h1 hk hb .nil pass0 (pa_cons (hm G hG) (ha G hG) he) hdb he hpl
  rw [← hG] at q
  exact q.imp fun _ _ _ h => callF_t h
theorem r_insert {K : PySem.W.Frag} (a : Addr) (O : Addr → Prop) (xs vs : List V) (l ds l' : List D) (d : D) (H : Hp) (Q : VK) (h : H a = some (.lst xs)) (r1 : Rps K O H xs l) (r2 : Rps K O H vs ds) (e : fInsert l ds = some (d, l'))
    (k : ∀ xs' v, Rps K O H xs' l' → Rp K O H v d → Q v (upd H a (.lst xs'))) : ∃ (l : Addr) (xs : List V) (i : Int) (y : V), V.ref a = .ref l ∧ vs = [.int i, y] ∧ H l = some (.lst xs) ∧ xs.length < sizeLine ∧ 0 ≤ i ∧ i < 2 ^ 63 ∧
    Q .non (upd H l (.lst (xs.take i.toNat ++ [y] ++ xs.drop i.toNat))) := by
  unfold fInsert at e
  split at e
  · rename_i i d'
    split at e
    · rename_i c
      cases e
      cases r2 with
      | cons q1 q2 =>
        cases q1
        cases q2 with
        | cons q3 q4 =>
          cases q4
          have hl := r1.length
          refine ⟨a, xs, i, _, rfl, rfl, h, by rw [hl, sizeLine_eq]; exact c.2.2, c.1, ?_, ?_⟩
          · have e63 : (2 : Int) ^ 63 = 9223372036854775808 := by decide
            have := c.2.2
            unfold lim at this
            rw [e63]
            omega
          · refine k _ _ ?_ .non
            rw [List.append_assoc]
            exact (r1.take _).append (.cons q3 (r1.drop _))
    · cases e
  · cases e
end
end Al
end
section
namespace Al
open PySem
/-! the meanings of the defs, printed by gen.py -/
/-- _law_take(feed, many) -/
def m__law_take : F := run 2 3 (seqS (ifS (valT (opS fGt [opS fIx [nameS 0, cS (.int 0)], cS (.int 0)])) (seqS (asgS 2 (opS fMod [opS fIx [nameS 0, cS (.int 0)], nameS 1]))
  (seqS (setS 0 (cS (.int 0)) (opS fDiv [opS fIx [nameS 0, cS (.int 0)], nameS 1]))
  (retS (nameS 2)))) (nilS))
  (seqS (setS 0 (cS (.int 1)) (opS fMod [opS fAdd [opS fMul [opS fIx [nameS 0, cS (.int 1)], cS (.int 69621)], cS (.int 12345)], cS (.int 2147483647)]))
  (retS (opS fMod [opS fDiv [opS fIx [nameS 0, cS (.int 1)], cS (.int 8191)], nameS 1]))))
/-- _law_pick(feed, some) -/
def m__law_pick : F := run 2 2 (retS (opS fIx [nameS 1, callS m__law_take [true, false] [nameS 0, opS fLen [nameS 1]]]))
/-- _law_row(feed, many) -/
def m__law_row : F := run 2 8 (seqS (asgS 2 (lstS [cS (.int 1), cS (.int 2), cS (.int 2), cS (.int 3), cS (.int 3), cS (.int 4), cS (.int 2), cS (.int 3), cS (.int 1), opS fAdd [cS (.int 5), callS m__law_take [true, false] [nameS 0, cS (.int 4)]], cS (.int 2), opS fMul [cS (.int 2), opS fInt [opS fGt [callS m__law_take [true, false] [nameS 0, cS (.int 6)], cS (.int 0)]]]]))
  (seqS (asgS 3 (opS fMin2 [nameS 1, callS m__law_pick [true, false] [nameS 0, nameS 2]]))
  (seqS (asgS 4 (opS fListRng [cS (.int 1), opS fAdd [nameS 1, cS (.int 1)]]))
  (seqS (asgS 5 (lstS []))
  (seqS (forS (srcK rngF [nameS 3]) (tgt1 6) (exprS (mutS 5 fAppend [mutS 4 fPop [callS m__law_take [true, false] [nameS 0, opS fLen [nameS 4]]]])))
  (retS (opS fTuple [compS [7] (srcV (opS fSortI [nameS 5])) (tgt1 7) (yesT) (opS fIx [lstS [nameS 7, opS fNeg [nameS 7]], callS m__law_take [true, false] [nameS 0, cS (.int 2)]])])))))))
/-- _law_claim(feed, most, rows) -/
def m__law_claim : F := run 3 9 (seqS (asgS 3 (callS m__law_pick [true, false] [nameS 0, lstS [nameS 1, opS fSub [nameS 1, cS (.int 1)], nameS 1, opS fSub [nameS 1, cS (.int 2)], nameS 1, callS m__law_take [true, false] [nameS 0, opS fAdd [nameS 1, cS (.int 1)]]]]))
  (seqS (asgS 4 (callS m__law_take [true, false] [nameS 0, cS (.int 4)]))
  (seqS (asgS 5 (compS [8] (srcK rngF [nameS 3]) (tgt1 8) (yesT) (callS m__law_pick [true, false] [nameS 0, lstS [cS (.str "all"), cS (.str "some")]])))
  (seqS (ifS (valT (opS fEq [nameS 4, cS (.int 0)])) (asgS 5 (compS [8] (srcK rngF [nameS 3]) (tgt1 8) (yesT) (opS fIx [lstS [cS (.str "some"), cS (.str "all")], opS fMod [nameS 8, cS (.int 2)]]))) (nilS))
  (seqS (asgS 6 (callS m__law_pick [true, false] [nameS 0, lstS [nameS 3, opS fAdd [nameS 3, opS fDiv [nameS 3, cS (.int 2)]], opS fMul [cS (.int 2), nameS 3], opS fAdd [opS fDiv [nameS 3, cS (.int 2)], cS (.int 1)], callS m__law_take [true, false] [nameS 0, opS fAdd [nameS 2, cS (.int 1)]], cS (.int 2)]]))
  (seqS (asgS 7 (compS [8] (srcK rngF [opS fMin2 [nameS 2, nameS 6]]) (tgt1 8) (yesT) (callS m__law_row [true, false] [nameS 0, nameS 3])))
  (seqS (ifS (andT (valT (opS fNe [nameS 7, lstS []])) (valT (opS fEq [callS m__law_take [true, false] [nameS 0, cS (.int 6)], cS (.int 0)]))) (exprS (mutS 7 fAppend [callS m__law_pick [true, true] [nameS 0, nameS 7]])) (nilS))
  (retS (tupS [opS fTuple [nameS 5], opS fTuple [opS fSlHi [nameS 7, nameS 2]]])))))))))
/-- _law_feed(script, k) -/
def m__law_feed : F := run 2 5 (seqS (asgS 2 (cS (.int 0)))
  (seqS (ifS (valT (opS fLt [nameS 1, opS fLen [nameS 0]])) (asgS 2 (opS fIx [nameS 0, nameS 1])) (nilS))
  (seqS (asgS 3 (cS (.int 0)))
  (seqS (ifS (valT (opS fGe [nameS 2, opS fPow [cS (.int 10), cS (.int 18)]])) (asgS 3 (opS fSub [nameS 2, opS fPow [cS (.int 10), cS (.int 18)]])) (nilS))
  (seqS (asgS 4 (opS fMod [opS fAdd [opS fAdd [opS fMul [opS fMod [nameS 2, cS (.int 2147483647)], cS (.int 48271)], opS fMul [cS (.int 7919), nameS 1]], cS (.int 5)], cS (.int 2147483629)]))
  (retS (lstS [nameS 3, opS fAdd [opS fMod [opS fPow [nameS 4, cS (.int 5)], cS (.int 2147483587)], cS (.int 1)]])))))))
/-- is_right(literal, play) -/
def m_is_right : F := run 2 2 (retS (andS (opS fLe [opS fAbs [nameS 0], opS fLen [nameS 1]]) (opS fEq [opS fIx [nameS 1, opS fSub [opS fAbs [nameS 0], cS (.int 1)]], opS fGt [nameS 0, cS (.int 0)]])))
/-- is_kept(row, play) -/
def m_is_kept : F := run 2 3 (retS (opS fAny [compS [2] (srcV (nameS 0)) (tgt1 2) (yesT) (callP m_is_right [nameS 2, nameS 1])]))
/-- nearer(literal, many) -/
def m_nearer : F := run 2 2 (retS (ifxS (valT (opS fGt [nameS 0, cS (.int 0)])) (opS fSub [nameS 0, nameS 1]) (opS fAdd [nameS 0, nameS 1])))
/-- is_open(literal, play) -/
def m_is_open : F := run 2 2 (retS (opS fGt [opS fAbs [nameS 0], opS fLen [nameS 1]]))
/-- left(claim, play) -/
def m_left : F := run 2 7 (seqS (asgS 2 (opS fLen [nameS 1]))
  (seqS (asgS 3 (compS [5] (srcV (opS fIx [nameS 0, cS (.int 1)])) (tgt1 5) (notT (valT (callP m_is_kept [nameS 5, nameS 1]))) (nameS 5)))
  (seqS (asgS 4 (compS [5] (srcV (nameS 3)) (tgt1 5) (yesT) (opS fTuple [compS [6] (srcV (nameS 5)) (tgt1 6) (valT (callP m_is_open [nameS 6, nameS 1])) (callP m_nearer [nameS 6, nameS 2])])))
  (retS (tupS [opS fSlLo [opS fIx [nameS 0, cS (.int 0)], nameS 2], opS fTuple [nameS 4]])))))
/-- all_kept(claim, play) -/
def m_all_kept : F := run 2 3 (retS (opS fAll [compS [2] (srcV (opS fIx [nameS 0, cS (.int 1)])) (tgt1 2) (yesT) (callP m_is_kept [nameS 2, nameS 1])]))
/-- other_of(side) -/
def m_other_of : F := run 1 1 (retS (ifxS (valT (opS fEq [nameS 0, cS (.str "all")])) (cS (.str "some")) (cS (.str "all"))))
/-- is_lost(row, play) -/
def m_is_lost : F := run 2 3 (retS (notS (opS fAny [compS [2] (srcV (nameS 0)) (tgt1 2) (yesT) (orS (callP m_is_right [nameS 2, nameS 1]) (callP m_is_open [nameS 2, nameS 1]))])))
/-- winner(claim, play), so many calls deep -/
def mN_winner : Nat → F
  | 0 => fun _ => none
  | n + 1 => run 2 4 (seqS (ifS (valT (opS fAny [compS [3] (srcV (opS fIx [nameS 0, cS (.int 1)])) (tgt1 3) (yesT) (callP m_is_lost [nameS 3, nameS 1])])) (retS (cS (.str "all"))) (nilS))
  (seqS (ifS (valT (callP m_all_kept [nameS 0, nameS 1])) (retS (cS (.str "some"))) (nilS))
  (seqS (asgS 2 (opS fIx [opS fIx [nameS 0, cS (.int 0)], opS fLen [nameS 1]]))
  (seqS (ifS (orT (valT (opS fEq [callP (mN_winner n) [nameS 0, opS fAdd [nameS 1, tupS [cS (.bl false)]]], nameS 2])) (valT (opS fEq [callP (mN_winner n) [nameS 0, opS fAdd [nameS 1, tupS [cS (.bl true)]]], nameS 2]))) (retS (nameS 2)) (nilS))
  (retS (callP m_other_of [nameS 2]))))))
def m_winner : F := mN_winner 12
/-- good_picks(claim, play) -/
def m_good_picks : F := run 2 4 (seqS (ifS (valT (opS fEq [opS fLen [nameS 1], opS fLen [opS fIx [nameS 0, cS (.int 0)]]])) (retS (lstS [])) (nilS))
  (seqS (asgS 2 (opS fIx [opS fIx [nameS 0, cS (.int 0)], opS fLen [nameS 1]]))
  (retS (compS [3] (srcV (tupS [cS (.bl false), cS (.bl true)])) (tgt1 3) (valT (opS fEq [callP m_winner [nameS 0, opS fAdd [nameS 1, tupS [nameS 3]]], nameS 2])) (nameS 3)))))
/-- is_kinds(thing, most) -/
def m_is_kinds : F := run 2 3 (seqS (ifS (orT (notT (valT (opS (fIsi .tuple) [nameS 0]))) (valT (opS fGt [opS fLen [nameS 0], nameS 1]))) (retS (cS (.bl false))) (nilS))
  (retS (opS fAll [compS [2] (srcV (nameS 0)) (tgt1 2) (yesT) (andS (opS (fIsi .str) [nameS 2]) (opS fIn [nameS 2, cS (.tup [.str "all", .str "some"])]))])))
/-- is_whole(thing) -/
def m_is_whole : F := run 1 1 (retS (andS (opS (fIsi .int) [nameS 0]) (notS (opS (fIsi .bool) [nameS 0]))))
/-- is_row(thing, many) -/
def m_is_row : F := run 2 4 (seqS (ifS (orT (notT (valT (opS (fIsi .tuple) [nameS 0]))) (notT (valT (opS fAll [compS [3] (srcV (nameS 0)) (tgt1 3) (yesT) (andS (callP m_is_whole [nameS 3]) (chainS fLe fLe (cS (.int 1)) (opS fAbs [nameS 3]) (nameS 1)))])))) (retS (cS (.bl false))) (nilS))
  (seqS (asgS 2 (compS [3] (srcV (nameS 0)) (tgt1 3) (yesT) (opS fAbs [nameS 3])))
  (retS (opS fEq [nameS 2, opS fSortSet [nameS 2]]))))
/-- is_claim(thing) -/
def m_is_claim : F := run 1 2 (seqS (ifS (orT (notT (valT (opS (fIsi .tuple) [nameS 0]))) (orT (valT (opS fNe [opS fLen [nameS 0], cS (.int 2)])) (notT (valT (callP m_is_kinds [opS fIx [nameS 0, cS (.int 0)], cS (.int 8)]))))) (retS (cS (.bl false))) (nilS))
  (seqS (ifS (orT (notT (valT (opS (fIsi .tuple) [opS fIx [nameS 0, cS (.int 1)]]))) (valT (opS fGt [opS fLen [opS fIx [nameS 0, cS (.int 1)]], cS (.int 20)]))) (retS (cS (.bl false))) (nilS))
  (retS (opS fAll [compS [1] (srcV (opS fIx [nameS 0, cS (.int 1)])) (tgt1 1) (yesT) (callP m_is_row [nameS 1, opS fLen [opS fIx [nameS 0, cS (.int 0)]]])]))))
/-- is_play(claim, thing) -/
def m_is_play : F := run 2 3 (seqS (ifS (orT (notT (valT (opS (fIsi .tuple) [nameS 1]))) (valT (opS fGt [opS fLen [nameS 1], opS fLen [opS fIx [nameS 0, cS (.int 0)]]]))) (retS (cS (.bl false))) (nilS))
  (retS (opS fAll [compS [2] (srcV (nameS 1)) (tgt1 2) (yesT) (opS (fIsi .bool) [nameS 2])])))
def m_law : F := run 1 15 (seqS (forS (srcK rngF3 [cS (.int 0), opS fMax2 [cS (.int 2), opS fMin2 [cS (.int 6), opS fLen [nameS 0]]], cS (.int 2)]) (tgt1 1) (seqS (asgS 2 (callF m__law_claim (callP m__law_feed [nameS 0, nameS 1]) [cS (.int 6), cS (.int 10)]))
  (seqS (asgS 3 (opS fLen [opS fIx [nameS 2, cS (.int 0)]]))
  (seqS (asgS 4 (callP m__law_feed [nameS 0, opS fAdd [nameS 1, cS (.int 1)]]))
  (forS (srcK rngF [cS (.int 2)]) (tgt1 5) (seqS (asgS 6 (callS m__law_take [true, false] [nameS 4, opS fAdd [nameS 3, cS (.int 1)]]))
  (seqS (asgS 7 (opS fTuple [compS [14] (srcK rngF [nameS 6]) (tgt1 14) (yesT) (opS fEq [callS m__law_take [true, false] [nameS 4, cS (.int 2)], cS (.int 1)])]))
  (seqS (asgS 8 (opS fTuple [compS [14] (srcK rngF [callS m__law_take [true, false] [nameS 4, opS fAdd [opS fSub [nameS 3, nameS 6], cS (.int 1)]]]) (tgt1 14) (yesT) (opS fEq [callS m__law_take [true, false] [nameS 4, cS (.int 2)], cS (.int 1)])]))
  (seqS (asgS 9 (callP m_left [nameS 2, nameS 7]))
  (seqS (ifS (orT (valT (opS fNotB [callP m_is_claim [nameS 9], cS (.bl true)])) (valT (opS fNotB [callP m_is_play [nameS 2, opS fAdd [nameS 7, nameS 8]], cS (.bl true)]))) (retS (cS (.bl false))) (nilS))
  (seqS (ifS (valT (opS fNe [callP m_left [nameS 9, nameS 8], callP m_left [nameS 2, opS fAdd [nameS 7, nameS 8]]])) (retS (cS (.bl false))) (nilS))
  (seqS (ifS (valT (opS fNe [callP m_winner [nameS 9, nameS 8], callP m_winner [nameS 2, opS fAdd [nameS 7, nameS 8]]])) (retS (cS (.bl false))) (nilS))
  (seqS (ifS (valT (opS fNe [callP m_good_picks [nameS 9, nameS 8], callP m_good_picks [nameS 2, opS fAdd [nameS 7, nameS 8]]])) (retS (cS (.bl false))) (nilS))
  (seqS (asgS 10 (compS [13] (srcV (opS fIx [nameS 2, cS (.int 1)])) (tgt1 13) (valT (callP m_is_kept [nameS 13, opS fAdd [nameS 7, nameS 8]])) (nameS 13)))
  (seqS (asgS 11 (compS [13] (srcV (opS fIx [nameS 2, cS (.int 1)])) (tgt1 13) (valT (callP m_is_lost [nameS 13, opS fAdd [nameS 7, nameS 8]])) (nameS 13)))
  (seqS (asgS 12 (opS fIx [callP m_left [nameS 2, opS fAdd [nameS 7, nameS 8]], cS (.int 1)]))
  (ifS (orT (valT (opS fNe [opS fLen [nameS 12], opS fSub [opS fLen [opS fIx [nameS 2, cS (.int 1)]], opS fLen [nameS 10]]])) (valT (opS fNe [cntS (nameS 12) (tupS []), opS fLen [nameS 11]]))) (retS (cS (.bl false))) (nilS))))))))))))))))))
  (retS (cS (.bl true))))
end Al
end
section
/-! Working with meanings in plain Lean. -/
namespace Al
open PySem

theorem rt_and (x : Bool) (ρ : Rho) (b : M) : (match (.val (.bl x) : R) with | .val (.bl true) => b ρ | .val (.bl false) => some (.val (.bl false), ρ) | _ => none) = if x then b ρ else some (.val (.bl false), ρ) := by cases x <;> rfl
theorem andS_bl {a b : M} {ρ ρ1 : Rho} {x : Bool} (h : a ρ = some (.val (.bl x), ρ1)) : andS a b ρ = if x then b ρ1 else some (.val (.bl false), ρ1) := by
  unfold andS; rw [h]; cases x <;> rfl
theorem orS_bl {a b : M} {ρ ρ1 : Rho} {x : Bool} (h : a ρ = some (.val (.bl x), ρ1)) : orS a b ρ = if x then some (.val (.bl true), ρ1) else b ρ1 := by
  unfold orS; rw [h]; cases x <;> rfl
theorem notS_bl {a : M} {ρ ρ1 : Rho} {x : Bool} (h : a ρ = some (.val (.bl x), ρ1)) : notS a ρ = some (.val (.bl (!x)), ρ1) := by
  unfold notS; rw [h]; rfl
/-- one turn of a comprehension -/
def stepL (own : List Nat) (tgt : Tgt) (cond : MT) (elt : M) (x : D) (ρ : Rho) : Option (Option D × Rho) :=
  (tgt x ρ).bind fun ρ1 => (cond ρ1).bind fun (c, ρ2) => if c then (elt ρ2).bind fun (r, ρ3) => (force r ρ3).bind fun (d, ρ4) => some (some d, wipeS own ρ4) else some (none, wipeS own ρ2)
theorem compL_cons {own : List Nat} {tgt : Tgt} {cond : MT} {elt : M} {x : D} {xs : List D} {ρ : Rho} :
    compL own tgt cond elt (x :: xs) ρ = (stepL own tgt cond elt x ρ).bind fun (o, ρ1) => (compL own tgt cond elt xs ρ1).bind fun (ds, ρ2) => some (match o with | some d => d :: ds | none => ds, ρ2) := by
  rw [compL]
  unfold stepL
  cases tgt x ρ with
  | none => rfl
  | some ρ1 =>
    simp only [Option.bind_some]
    cases cond ρ1 with
    | none => rfl
    | some p =>
      obtain ⟨c, ρ2⟩ := p
      simp only [Option.bind_some]
      cases c with
      | true =>
        simp only [if_true]
        cases elt ρ2 with
        | none => rfl
        | some q =>
          obtain ⟨r, ρ3⟩ := q
          simp only [Option.bind_some]
          cases force r ρ3 with
          | none => rfl
          | some z => rfl
      | false =>
        simp only [Bool.false_eq_true, if_false, Option.bind_some]
        cases compL own tgt cond elt xs (wipeS own ρ2) <;> rfl
theorem compL_pure {α : Type} {own : List Nat} {tgt : Tgt} {cond : MT} {elt : M} {ρ : Rho} (enc : α → D) (c : α → Bool) (g : α → D) : ∀ l : List α, (∀ a ∈ l, stepL own tgt cond elt (enc a) ρ = some (if c a then some (g a) else none, ρ)) →
    compL own tgt cond elt (l.map enc) ρ = some ((l.filter c).map g, ρ)
  | [], _ => rfl
  | a :: l, h => by
    rw [List.map_cons, compL_cons, h a List.mem_cons_self]
    simp only [Option.bind_some, compL_pure enc c g l fun b hb => h b (List.mem_cons_of_mem _ hb)]
    cases e : c a <;> simp [List.filter_cons, e]
theorem compS_pure {α : Type} {own : List Nat} {src : Src} {tgt : Tgt} {cond : MT} {elt : M} {ρ ρ1 ρ3 : Rho} {o : Option Nat} {xs : List D} (enc : α → D) (c : α → Bool) (g : α → D) (l : List α)
    (hs : src ρ = some (xs, o, ρ1)) (hx : xs = l.map enc) (hl : l.length ≤ 1000000) (hf : freeOf o own = true)
    (h : ∀ a ∈ l, stepL own tgt cond elt (enc a) (wipeS own (maskS o ρ1)) = some (if c a then some (g a) else none, wipeS own (maskS o ρ1)))
    (hb : backS o ρ1 (unwipeS own ρ1 (wipeS own (maskS o ρ1))) = some ρ3) : compS own src tgt cond elt ρ = some (.fr (.lst ((l.filter c).map g)), ρ3) := by
  subst hx
  unfold compS
  rw [hs]
  simp only [Option.bind_some, List.length_map, hl, hf, and_self, if_true, compL_pure enc c g l h, hb]
theorem compS_map {α : Type} {own : List Nat} {src : Src} {tgt : Tgt} {cond : MT} {elt : M} {ρ ρ1 ρ3 : Rho} {o : Option Nat} {xs : List D} (enc : α → D) (g : α → D) (l : List α)
    (hs : src ρ = some (xs, o, ρ1)) (hx : xs = l.map enc) (hl : l.length ≤ 1000000) (hf : freeOf o own = true)
    (h : ∀ a ∈ l, stepL own tgt cond elt (enc a) (wipeS own (maskS o ρ1)) = some (some (g a), wipeS own (maskS o ρ1)))
    (hb : backS o ρ1 (unwipeS own ρ1 (wipeS own (maskS o ρ1))) = some ρ3) : compS own src tgt cond elt ρ = some (.fr (.lst (l.map g)), ρ3) := by
  rw [compS_pure (ρ3 := ρ3) enc (fun _ => true) g l hs hx hl hf h hb, List.filter_eq_self.mpr fun _ _ => rfl]
theorem blsOf_map {α : Type} (f : α → Bool) : ∀ l : List α, blsOf (l.map fun a => .bl (f a)) = some (l.map f)
  | [] => rfl
  | a :: l => by simp [blsOf, blsOf_map f l]
theorem fAny_map {α : Type} (f : α → Bool) (l : List α) : fAny [.lst (l.map fun a => .bl (f a))] = some (.val (.bl (l.any f))) := by
  simp [fAny, blsOf_map, vb]
theorem fAll_map {α : Type} (f : α → Bool) (l : List α) : fAll [.lst (l.map fun a => .bl (f a))] = some (.val (.bl (l.all f))) := by
  simp [fAll, blsOf_map, vb]
inductive All2 {α : Type} (R : α → D → Prop) : List α → List D → Prop
  | nil : All2 R [] []
  | cons {a : α} {d : D} {as : List α} {ds : List D} : R a d → All2 R as ds → All2 R (a :: as) (d :: ds)
theorem compL_rel {α : Type} {own : List Nat} {tgt : Tgt} {cond : MT} {elt : M} (I : Rho → Prop) (enc : α → D) (R : α → D → Prop) : ∀ (xs : List α) (ρ : Rho), I ρ → (∀ x ∈ xs, ∀ ρ, I ρ → ∃ d ρ', stepL own tgt cond elt (enc x) ρ = some (some d, ρ') ∧ I ρ' ∧ R x d) →
    ∃ ds ρ', compL own tgt cond elt (xs.map enc) ρ = some (ds, ρ') ∧ I ρ' ∧ All2 R xs ds
  | [], ρ, h, _ => ⟨[], ρ, rfl, h, .nil⟩
  | x :: xs, ρ, h, k => by
    obtain ⟨d, ρ1, e1, i1, g1⟩ := k x List.mem_cons_self ρ h
    obtain ⟨ds, ρ2, e2, i2, g2⟩ := compL_rel I enc R xs ρ1 i1 fun y hy => k y (List.mem_cons_of_mem _ hy)
    refine ⟨d :: ds, ρ2, ?_, i2, .cons g1 g2⟩
    rw [List.map_cons, compL_cons, e1]
    simp [e2]
def okPut : Option S → Bool
  | some .un => true
  | some (.fz _) => true
  | some (.ow false _) => true
  | _ => false
theorem putS_eq (i : Nat) (t : S) (ρ : Rho) : putS i t ρ = if okPut ρ[i]? = true then some (ρ.set i t) else none := by
  unfold putS
  cases h : ρ[i]? with
  | none => rfl
  | some s =>
    cases s with
    | un => rfl
    | fz d => rfl
    | mk => rfl
    | ow p d => cases p <;> rfl
theorem okPut_un : okPut (some .un) = true := rfl
theorem okPut_fz (d : D) : okPut (some (.fz d)) = true := rfl
theorem okPut_ow (d : D) : okPut (some (.ow false d)) = true := rfl
theorem map_eraseIdx' {α β : Type} (f : α → β) : ∀ (l : List α) (i : Nat), (l.eraseIdx i).map f = (l.map f).eraseIdx i
  | [], _ => rfl
  | a :: l, 0 => rfl
  | a :: l, i + 1 => by simp [map_eraseIdx' f l i]
theorem inB_of {i : Int} (h1 : -4611686018427387904 ≤ i) (h2 : i < 4611686018427387904) : inB i = true := by
  show (decide (-4611686018427387904 ≤ i) && decide (i < 4611686018427387904)) = true
  rw [decide_eq_true h1, decide_eq_true h2]; rfl
theorem mkLst_nil : mkLst [] = some (.fr (.lst [])) := by
  show (if 0 ≤ lim then _ else _) = _
  rw [if_pos (Nat.zero_le _)]
theorem mkTup_nil : mkTup [] = some (.val (.tup [])) := by
  show (if 0 ≤ lim then _ else _) = _
  rw [if_pos (Nat.zero_le _)]
theorem opS_ok {f : List D → Option R} {ms : List M} {ρ ρ1 : Rho} {rs : List R} {ds : List D} {r : R} (h1 : evs ms ρ = some (rs, ρ1)) (h2 : peeks ρ1 rs = some ds) (h3 : f ds = some r) : opS f ms ρ = some (r, ρ1) := by
  simp only [opS, h1, h2, h3, Option.bind_some]
theorem srcK_ok {f : List D → Option (List D)} {ms : List M} {ρ ρ1 ρ2 : Rho} {rs : List R} {ds l : List D} (h1 : evs ms ρ = some (rs, ρ1)) (h2 : forces rs ρ1 = some (ds, ρ2)) (h3 : f ds = some l) : srcK f ms ρ = some (l, none, ρ2) := by
  simp only [srcK, h1, h2, h3, Option.bind_some]
theorem forS_ok {src : Src} {tgt : Tgt} {body : MS} {ρ ρ1 ρ2 ρ3 : Rho} {xs : List D} {o : Option Nat} {fl : Fl} (h1 : src ρ = some (xs, o, ρ1)) (h2 : loopS tgt body xs (maskS o ρ1) = some (fl, ρ2)) (h3 : backS o ρ1 ρ2 = some ρ3) : forS src tgt body ρ = some (fl, ρ3) := by
  simp only [forS, h1, h2, h3, Option.bind_some]
theorem compS_ok {own : List Nat} {src : Src} {tgt : Tgt} {cond : MT} {elt : M} {ρ ρ1 ρ2 ρ3 : Rho} {xs ds : List D} {o : Option Nat} (h1 : src ρ = some (xs, o, ρ1)) (hl : xs.length ≤ 1000000) (hf : freeOf o own = true)
    (h2 : compL own tgt cond elt xs (wipeS own (maskS o ρ1)) = some (ds, ρ2)) (h3 : backS o ρ1 (unwipeS own ρ1 ρ2) = some ρ3) : compS own src tgt cond elt ρ = some (.fr (.lst ds), ρ3) := by
  simp only [compS, h1, hl, hf, h2, h3, Option.bind_some, and_self, if_true]
theorem asgS_fr {i : Nat} {m : M} {ρ ρ1 : Rho} {d : D} (h : m ρ = some (.fr d, ρ1)) (k : okPut ρ1[i]? = true) : asgS i m ρ = some (.nx, ρ1.set i (.ow false d)) := by
  simp only [asgS, h, Option.bind_some, putS_eq, k, if_true]
theorem asgS_val {i : Nat} {m : M} {ρ ρ1 : Rho} {d : D} (h : m ρ = some (.val d, ρ1)) (k : okPut ρ1[i]? = true) : asgS i m ρ = some (.nx, ρ1.set i (.fz d)) := by
  simp only [asgS, h, Option.bind_some, force, putS_eq, k, if_true]
theorem rngF_nat (z : Nat) (h : z < 4611686018427387904) : rngF [.int z] = some (rngD 0 z) := by
  have hb : inB (z : Int) = true := inB_of (by omega) (by omega)
  show (if inB (z : Int) = true then some (rngD 0 (z : Int).toNat) else none) = _
  rw [if_pos hb]
  rfl
theorem compL_inv {own : List Nat} {tgt : Tgt} {cond : MT} {elt : M} (I : Rho → Prop) (G : D → Prop) : ∀ (xs : List D) (ρ : Rho), I ρ → (∀ x ∈ xs, ∀ ρ, I ρ → ∃ d ρ', stepL own tgt cond elt x ρ = some (some d, ρ') ∧ I ρ' ∧ G d) →
    ∃ ds ρ', compL own tgt cond elt xs ρ = some (ds, ρ') ∧ I ρ' ∧ ds.length = xs.length ∧ ∀ d ∈ ds, G d
  | [], ρ, h, _ => ⟨[], ρ, rfl, h, rfl, fun d z => by cases z⟩
  | x :: xs, ρ, h, k => by
    obtain ⟨d, ρ1, e1, i1, g1⟩ := k x List.mem_cons_self ρ h
    obtain ⟨ds, ρ2, e2, i2, l2, g2⟩ := compL_inv I G xs ρ1 i1 fun y hy => k y (List.mem_cons_of_mem _ hy)
    refine ⟨d :: ds, ρ2, ?_, i2, by simp [l2], fun y hy => ?_⟩
    · rw [compL_cons, e1]
      simp [e2]
    · rcases List.mem_cons.mp hy with rfl | hy
      · exact g1
      · exact g2 y hy
theorem loopS_inv {tgt : Tgt} {body : MS} (I : Nat → Rho → Prop) : ∀ (xs : List D) (k : Nat) (ρ : Rho), I k ρ → (∀ (j : Nat) x, xs[j]? = some x → ∀ ρ, I (k + j) ρ → ∃ ρ1 ρ2, tgt x ρ = some ρ1 ∧ body ρ1 = some (.nx, ρ2) ∧ I (k + j + 1) ρ2) →
    ∃ ρ', loopS tgt body xs ρ = some (.nx, ρ') ∧ I (k + xs.length) ρ'
  | [], k, ρ, h, _ => ⟨ρ, rfl, h⟩
  | x :: xs, k, ρ, h, q => by
    obtain ⟨ρ1, ρ2, e1, e2, h2⟩ := q 0 x rfl ρ h
    obtain ⟨ρ', e3, h3⟩ := loopS_inv I xs (k + 1) ρ2 h2 fun j y hy ρ i => by
      have := q (j + 1) y (by simpa using hy) ρ (by rw [show k + (j + 1) = k + 1 + j by omega]; exact i)
      rw [show k + (j + 1) + 1 = k + 1 + j + 1 by omega] at this
      exact this
    refine ⟨ρ', ?_, by rw [List.length_cons, show k + (xs.length + 1) = k + 1 + xs.length by omega]; exact h3⟩
    rw [loopS, e1]
    simp [e2, e3]
end Al
end
section
namespace Al
open PySem
theorem fIx_tupN (l : List D) (k : Nat) : fIx [.tup l, .int (k : Nat)] = (l[k]?).map .val := by
  simp only [fIx, ixOf]
  by_cases h : k < l.length
  · simp [h]
  · have : l[k]? = none := List.getElem?_eq_none (by omega)
    have h2 : ¬ ((k : Int) < (l.length : Int)) := by omega
    simp [this, h2]
theorem fIx_lstN (l : List D) (k : Nat) : fIx [.lst l, .int (k : Nat)] = (l[k]?).map .val := fIx_tupN l k
theorem fIx_frzN (l : List D) (k : Nat) : fIx [.frz l, .int (k : Nat)] = (l[k]?).map .val := fIx_tupN l k
theorem fIx_t0 (a : D) (l : List D) : fIx [.tup (a :: l), .int 0] = some (.val a) := fIx_tupN (a :: l) 0
theorem fIx_t1 (a b : D) (l : List D) : fIx [.tup (a :: b :: l), .int 1] = some (.val b) := fIx_tupN (a :: b :: l) 1
theorem fIx_l0 (a : D) (l : List D) : fIx [.lst (a :: l), .int 0] = some (.val a) := fIx_tupN (a :: l) 0
theorem fIx_l1 (a b : D) (l : List D) : fIx [.lst (a :: b :: l), .int 1] = some (.val b) := fIx_tupN (a :: b :: l) 1
theorem fEq_int (i j : Int) : fEq [.int i, .int j] = some (.val (.bl (i == j))) := rfl
theorem fEq_bl (i j : Bool) : fEq [.bl i, .bl j] = some (.val (.bl (i == j))) := rfl
theorem fNe_int (i j : Int) : fNe [.int i, .int j] = some (.val (.bl (!(i == j)))) := rfl
theorem fNe_bl (i j : Bool) : fNe [.bl i, .bl j] = some (.val (.bl (!(i == j)))) := rfl
theorem abs_eq (l : Int) : (if l < 0 then -l else l) = (l.natAbs : Int) := by split <;> omega
theorem fAbs_eq (l : Int) : fAbs [.int l] = some (.val (.int (l.natAbs : Nat))) := by
  simp only [fAbs, vi, abs_eq]

@[local simp] def u0_run_1 := @run.eq_1
@[local simp] def u0_retS_1 := @retS.eq_1
@[local simp] def u0_opS_1 := @opS.eq_1
@[local simp] def u0_keepS_1 := @keepS.eq_1
@[local simp] def u0_tupS_1 := @tupS.eq_1
@[local simp] def u0_lstS_1 := @lstS.eq_1
@[local simp] def u0_mkTup_1 := @mkTup.eq_1
@[local simp] def u0_mkLst_1 := @mkLst.eq_1
@[local simp] def u0_evs_1 := @evs.eq_1
@[local simp] def u0_evs_2 := @evs.eq_2
@[local simp] def u0_peeks_1 := @peeks.eq_1
@[local simp] def u0_peeks_2 := @peeks.eq_2
@[local simp] def u0_peek_1 := @peek.eq_1
@[local simp] def u0_peek_2 := @peek.eq_2
@[local simp] def u0_peek_3 := @peek.eq_3
@[local simp] def u0_forces_1 := @forces.eq_1
@[local simp] def u0_forces_2 := @forces.eq_2
@[local simp] def u0_force_1 := @force.eq_1
@[local simp] def u0_force_2 := @force.eq_2
@[local simp] def u0_force_3 := @force.eq_3
@[local simp] def u0_forget_1 := @forget.eq_1
@[local simp] def u0_forget_2 := @forget.eq_2
@[local simp] def u0_freezes_1 := @freezes.eq_1
@[local simp] def u0_freezes_2 := @freezes.eq_2
@[local simp] def u0_freezes_3 := @freezes.eq_3
@[local simp] def u0_nameS_1 := @nameS.eq_1
@[local simp] def u0_cS_1 := @cS.eq_1
@[local simp] def u0_seqS_1 := @seqS.eq_1
@[local simp] def u0_nilS_1 := @nilS.eq_1
@[local simp] def u0_ifS_1 := @ifS.eq_1
@[local simp] def u0_asgS_1 := @asgS.eq_1
@[local simp] def u0_putS_1 := @putS.eq_1
@[local simp] def u0_exprS_1 := @exprS.eq_1
@[local simp] def u0_valT_1 := @valT.eq_1
@[local simp] def u0_notT_1 := @notT.eq_1
@[local simp] def u0_yesT_1 := @yesT.eq_1
@[local simp] def u0_andT_1 := @andT.eq_1
@[local simp] def u0_orT_1 := @orT.eq_1
@[local simp] def u0_argOk_1 := @argOk.eq_1
@[local simp] def u0_argOk_2 := @argOk.eq_2
@[local simp] def u0_argOk_3 := @argOk.eq_3
@[local simp] def u0_outs_1 := @outs.eq_1
@[local simp] def u0_outs_2 := @outs.eq_2
@[local simp] def u0_outs_3 := @outs.eq_3
@[local simp] def u0_outs_4 := @outs.eq_4
@[local simp] def u0_retR_1 := @retR.eq_1
@[local simp] def u0_retR_2 := @retR.eq_2
@[local simp] def u0_vi_1 := @vi.eq_1
@[local simp] def u0_vb_1 := @vb.eq_1
@[local simp high] def u1_mkLst_nil := @mkLst_nil
@[local simp high] def u1_mkTup_nil := @mkTup_nil
@[local simp] def u2_fAdd_1 := @fAdd.eq_1
@[local simp] def u2_fAdd_2 := @fAdd.eq_2
@[local simp] def u2_fAdd_3 := @fAdd.eq_3
@[local simp] def u2_fAdd_4 := @fAdd.eq_4
@[local simp] def u2_fAdd_5 := @fAdd.eq_5
@[local simp] def u2_fSub_1 := @fSub.eq_1
@[local simp] def u2_fSub_2 := @fSub.eq_2
@[local simp] def u2_fLt_1 := @fLt.eq_1
@[local simp] def u2_fLt_2 := @fLt.eq_2
@[local simp] def u2_fLe_1 := @fLe.eq_1
@[local simp] def u2_fLe_2 := @fLe.eq_2
@[local simp] def u2_fGt_1 := @fGt.eq_1
@[local simp] def u2_fGt_2 := @fGt.eq_2
@[local simp] def u2_fGe_1 := @fGe.eq_1
@[local simp] def u2_fGe_2 := @fGe.eq_2
@[local simp] def u2_fLen_1 := @fLen.eq_1
@[local simp] def u2_fLen_2 := @fLen.eq_2
@[local simp] def u2_fLen_3 := @fLen.eq_3
@[local simp] def u2_fLen_4 := @fLen.eq_4
@[local simp] def u2_fLen_5 := @fLen.eq_5
@[local simp] def u2_fMax2_1 := @fMax2.eq_1
@[local simp] def u2_fMax2_2 := @fMax2.eq_2
@[local simp] def u2_fMin2_1 := @fMin2.eq_1
@[local simp] def u2_fMin2_2 := @fMin2.eq_2
@[local simp] def u2_fTuple_1 := @fTuple.eq_1
@[local simp] def u2_fTuple_2 := @fTuple.eq_2
@[local simp] def u2_fTuple_3 := @fTuple.eq_3
@[local simp] def u2_fList_1 := @fList.eq_1
@[local simp] def u2_fList_2 := @fList.eq_2
@[local simp] def u2_fList_3 := @fList.eq_3
@[local simp] def u2_srcV_1 := @srcV.eq_1
@[local simp] def u2_seqOf_1 := @seqOf.eq_1
@[local simp] def u2_seqOf_2 := @seqOf.eq_2
@[local simp] def u2_seqOf_3 := @seqOf.eq_3
@[local simp] def u2_maskS_1 := @maskS.eq_1
@[local simp] def u2_maskS_2 := @maskS.eq_2
@[local simp] def u2_backS_1 := @backS.eq_1
@[local simp] def u2_backS_2 := @backS.eq_2
@[local simp] def u2_wipeS_1 := @wipeS.eq_1
@[local simp] def u2_wipeS_2 := @wipeS.eq_2
@[local simp] def u2_unwipeS_1 := @unwipeS.eq_1
@[local simp] def u2_unwipeS_2 := @unwipeS.eq_2
@[local simp] def u2_freeOf_1 := @freeOf.eq_1
@[local simp] def u2_freeOf_2 := @freeOf.eq_2
@[local simp] def u2_tgt1_1 := @tgt1.eq_1
@[local simp] def u2_stepL_1 := @stepL.eq_1
@[local simp] def u2_callP_1 := @callP.eq_1
@[local simp] def u2_ifxS_1 := @ifxS.eq_1
@[local simp] def u3_fIx_t0 := @fIx_t0
@[local simp] def u3_fIx_t1 := @fIx_t1
@[local simp] def u3_fIx_l0 := @fIx_l0
@[local simp] def u3_fIx_l1 := @fIx_l1
@[local simp] def u3_fIx_tupN := @fIx_tupN
@[local simp] def u3_fEq_int := @fEq_int
@[local simp] def u3_fEq_bl := @fEq_bl
@[local simp] def u3_fNe_int := @fNe_int
@[local simp] def u3_fNe_bl := @fNe_bl
@[local simp] def u3_fAbs_eq := @fAbs_eq

abbrev pD (p : List Bool) : D := .tup (p.map .bl)
abbrev rD (r : List Int) : D := .tup (r.map .int)
def kD (b : Bool) : D := .str (if b then "some" else "all")
abbrev cD (ks : List Bool) (rows : List (List Int)) : D := .tup [.tup (ks.map kD), .tup (rows.map rD)]

def isRight (l : Int) (p : List Bool) : Bool := match p[l.natAbs - 1]? with
  | some b => b == decide (0 < l)
  | none => false
def isOpen (l : Int) (p : List Bool) : Bool := decide (p.length < l.natAbs)
theorem right_eq (l : Int) (p : List Bool) (h : 1 ≤ l.natAbs) : m_is_right [.fz (.int l), .fz (pD p)] = some (.val (.bl (isRight l p)), [.un, .un]) := by
  have e1 : opS fLe [opS fAbs [nameS 0], opS fLen [nameS 1]] [.fz (.int l), .fz (pD p)] = some (.val (.bl (decide (l.natAbs ≤ p.length))), [.fz (.int l), .fz (pD p)]) := by
    simp
  simp only [m_is_right, run, retS]
  simp
  rw [andS_bl e1]
  by_cases c : l.natAbs ≤ p.length
  · obtain ⟨b, eb⟩ : ∃ b, p[l.natAbs - 1]? = some b := ⟨p[l.natAbs - 1]'(by omega), List.getElem?_eq_getElem _⟩
    have i3 : (l.natAbs : Int) - 1 = ((l.natAbs - 1 : Nat) : Int) := by omega
    simp [c, i3, eb, isRight]
  · have : p[l.natAbs - 1]? = none := List.getElem?_eq_none (by omega)
    simp [c, isRight, this]
theorem open_eq (l : Int) (p : List Bool) : m_is_open [.fz (.int l), .fz (pD p)] = some (.val (.bl (isOpen l p)), [.un, .un]) := by
  simp [m_is_open, isOpen]
def Row1 (r : List Int) : Prop := ∀ l ∈ r, 1 ≤ l.natAbs
def kept (r : List Int) (p : List Bool) : Bool := r.any fun l => isRight l p
def lost (r : List Int) (p : List Bool) : Bool := !(r.any fun l => isRight l p || isOpen l p)
theorem kept_eq (r : List Int) (p : List Bool) (h : Row1 r) (hl : r.length ≤ 1000000) : m_is_kept [.fz (rD r), .fz (pD p)] = some (.val (.bl (kept r p)), [.un, .un]) := by
  have e := compS_map (own := [2]) (src := srcV (nameS 0)) (tgt := tgt1 2) (cond := yesT) (elt := callP m_is_right [nameS 2, nameS 1]) (ρ := [.fz (rD r), .fz (pD p), .un]) (ρ3 := [.fz (rD r), .fz (pD p), .un]) (o := none) D.int (fun l => .bl (isRight l p)) r
    rfl rfl hl rfl (fun a ha => by simp [right_eq a p (h a ha)]) rfl
  simp [m_is_kept, e, fAny_map (fun l => isRight l p), kept]
theorem lost_eq (r : List Int) (p : List Bool) (h : Row1 r) (hl : r.length ≤ 1000000) : m_is_lost [.fz (rD r), .fz (pD p)] = some (.val (.bl (lost r p)), [.un, .un]) := by
  have st : ∀ a ∈ r, orS (callP m_is_right [nameS 2, nameS 1]) (callP m_is_open [nameS 2, nameS 1]) [.fz (rD r), .fz (pD p), .fz (.int a)] = some (.val (.bl (isRight a p || isOpen a p)), [.fz (rD r), .fz (pD p), .fz (.int a)]) := fun a ha => by
    rw [orS_bl (x := isRight a p) (ρ1 := [.fz (rD r), .fz (pD p), .fz (.int a)]) (by simp [right_eq a p (h a ha)])]
    cases isRight a p <;> simp [open_eq]
  have e := compS_map (own := [2]) (src := srcV (nameS 0)) (tgt := tgt1 2) (cond := yesT) (elt := orS (callP m_is_right [nameS 2, nameS 1]) (callP m_is_open [nameS 2, nameS 1])) (ρ := [.fz (rD r), .fz (pD p), .un]) (ρ3 := [.fz (rD r), .fz (pD p), .un]) (o := none) D.int (fun l => .bl (isRight l p || isOpen l p)) r
    rfl rfl hl rfl (fun a ha => by simp [st a ha]) rfl
  have e2 : opS fAny [compS [2] (srcV (nameS 0)) (tgt1 2) yesT (orS (callP m_is_right [nameS 2, nameS 1]) (callP m_is_open [nameS 2, nameS 1]))] [.fz (rD r), .fz (pD p), .un] = some (.val (.bl (r.any fun l => isRight l p || isOpen l p)), [.fz (rD r), .fz (pD p), .un]) := by
    simp [e, fAny_map (fun l => isRight l p || isOpen l p)]
  simp only [m_is_lost, run, retS, notS_bl]
  simp [notS_bl e2, lost]

theorem plain_kD (b : Bool) : plain (kD b) = true := by cases b <;> decide +kernel
theorem eqv_kD (a b : Bool) : D.eqv (kD a) (kD b) = (a == b) := by
  cases a <;> cases b <;> simp only [kD, D.eqv] <;> decide +kernel
theorem fEq_kD (a b : Bool) : fEq [kD a, kD b] = some (.val (.bl (a == b))) := by simp [fEq, plain_kD, eqv_kD]
theorem fNe_kD (a b : Bool) : fNe [kD a, kD b] = some (.val (.bl (!(a == b)))) := by simp [fNe, plain_kD, eqv_kD]
theorem forces_cons (d : D) (rs : List R) (ρ : Rho) : forces (.val d :: rs) ρ = (forces rs ρ).bind fun (ds, ρ2) => some (d :: ds, ρ2) := rfl
def RowIn (m : Nat) (r : List Int) : Prop := ∀ l ∈ r, 1 ≤ l.natAbs ∧ l.natAbs ≤ m
structure Small (ks : List Bool) (rows : List (List Int)) : Prop where
  kl : ks.length ≤ 1000
  rl : rows.length ≤ 1000
  rr : ∀ r ∈ rows, r.length ≤ 1000
theorem RowIn.one {m : Nat} {r : List Int} (h : RowIn m r) : Row1 r := fun l hl => (h l hl).1
theorem all_kept_eq (ks : List Bool) (rows : List (List Int)) (p : List Bool) (S : Small ks rows) (h : ∀ r ∈ rows, Row1 r) :
    m_all_kept [.fz (cD ks rows), .fz (pD p)] = some (.val (.bl (rows.all fun r => kept r p)), [.un, .un]) := by
  have e := compS_map (own := [2]) (src := srcV (opS fIx [nameS 0, cS (.int 1)])) (tgt := tgt1 2) (cond := yesT) (elt := callP m_is_kept [nameS 2, nameS 1]) (ρ := [.fz (cD ks rows), .fz (pD p), .un]) (ρ3 := [.fz (cD ks rows), .fz (pD p), .un]) (o := none) rD (fun r => .bl (kept r p)) rows
    (by simp; rfl) rfl (by have := S.rl; omega) rfl (fun a ha => by simp [kept_eq a p (h a ha) (by have := S.rr a ha; omega)]) rfl
  simp [m_all_kept, e, fAll_map (fun r => kept r p)]
theorem nearer_eq (l : Int) (m : Nat) : m_nearer [.fz (.int l), .fz (.int m)] = some (.val (.int (if 0 < l then l - m else l + m)), [.un, .un]) := by
  by_cases c : 0 < l <;> simp [m_nearer, c]
def near (m : Nat) (l : Int) : Int := if 0 < l then l - m else l + m
def leftR (p : List Bool) (r : List Int) : List Int := (r.filter fun l => isOpen l p).map (near p.length)
def leftRs (rows : List (List Int)) (p : List Bool) : List (List Int) := (rows.filter fun r => !kept r p).map (leftR p)
theorem fSlLo_tup (l : List D) (k : Nat) : fSlLo [.tup l, .int (k : Nat)] = some (.val (.tup (l.drop k))) := by
  simp only [fSlLo, sliceF, cutL, loOf, hiOf, clampI]
  have : ¬ ((k : Int) < 0) := by omega
  simp only [this, if_false, Int.toNat_natCast, List.take_length]
  by_cases h : k ≤ l.length
  · rw [Nat.min_eq_left h]
  · rw [Nat.min_eq_right (by omega), List.drop_eq_nil_of_le (by omega), List.drop_eq_nil_of_le (by omega)]
theorem left_eq (ks : List Bool) (rows : List (List Int)) (p : List Bool) (S : Small ks rows) (h : ∀ r ∈ rows, Row1 r) :
    m_left [.fz (cD ks rows), .fz (pD p)] = some (.val (cD (ks.drop p.length) (leftRs rows p)), [.un, .un]) := by
  have e1 := compS_pure (own := [5]) (src := srcV (opS fIx [nameS 0, cS (.int 1)])) (tgt := tgt1 5) (cond := notT (valT (callP m_is_kept [nameS 5, nameS 1]))) (elt := nameS 5) (ρ := [.fz (cD ks rows), .fz (pD p), .fz (.int p.length), .un, .un, .un, .un]) (ρ3 := [.fz (cD ks rows), .fz (pD p), .fz (.int p.length), .un, .un, .un, .un]) (o := none) rD (fun r => !kept r p) rD rows
    (by simp; rfl) rfl (by have := S.rl; omega) rfl (fun a ha => by
      cases c : kept a p <;> simp [kept_eq a p (h a ha) (by have := S.rr a ha; omega), c]) rfl
  have e2 : ∀ r ∈ rows, compS [6] (srcV (nameS 5)) (tgt1 6) (valT (callP m_is_open [nameS 6, nameS 1])) (callP m_nearer [nameS 6, nameS 2]) [.fz (cD ks rows), .fz (pD p), .fz (.int p.length), .mk, .un, .fz (rD r), .un] =
      some (.fr (.lst ((leftR p r).map .int)), [.fz (cD ks rows), .fz (pD p), .fz (.int p.length), .mk, .un, .fz (rD r), .un]) := fun r hr => by
    rw [compS_pure (own := [6]) (src := srcV (nameS 5)) (tgt := tgt1 6) (cond := valT (callP m_is_open [nameS 6, nameS 1])) (elt := callP m_nearer [nameS 6, nameS 2]) (o := none) (ρ3 := [.fz (cD ks rows), .fz (pD p), .fz (.int p.length), .mk, .un, .fz (rD r), .un])
      D.int (fun l => isOpen l p) (fun l => .int (near p.length l)) r rfl rfl (by have := S.rr r hr; omega) rfl (fun a ha => by
        cases c : isOpen a p <;> simp [open_eq, c, nearer_eq, near]) rfl]
    simp [leftR]
  have e3 := compS_map (own := [5]) (src := srcV (nameS 3)) (tgt := tgt1 5) (cond := yesT) (elt := opS fTuple [compS [6] (srcV (nameS 5)) (tgt1 6) (valT (callP m_is_open [nameS 6, nameS 1])) (callP m_nearer [nameS 6, nameS 2])]) (ρ := [.fz (cD ks rows), .fz (pD p), .fz (.int p.length), .ow false (.lst ((rows.filter fun r => !kept r p).map rD)), .un, .un, .un])
    (ρ3 := [.fz (cD ks rows), .fz (pD p), .fz (.int p.length), .ow false (.lst ((rows.filter fun r => !kept r p).map rD)), .un, .un, .un]) (o := some 3) rD (fun r => rD (leftR p r)) (rows.filter fun r => !kept r p)
    rfl rfl (by have := S.rl; have := List.length_filter_le (fun r => !kept r p) rows; omega) rfl (fun a ha => by
      have := e2 a (List.mem_filter.mp ha).1
      simp [this]) rfl
  simp [m_left, e1, e3, fSlLo_tup, leftRs, List.length_drop, lim]

theorem kD_all : kD false = .str "all" := rfl
theorem kD_some : kD true = .str "some" := rfl
theorem other_eq (b : Bool) : m_other_of [.fz (kD b)] = some (.val (kD (!b)), [.un]) := by
  have e : fEq [kD b, .str "all"] = some (.val (.bl (b == false))) := fEq_kD b false
  cases b <;> simp [m_other_of, e] <;> rfl
def winN (ks : List Bool) (rows : List (List Int)) : Nat → List Bool → Bool
  | 0, _ => false
  | n + 1, p => if (rows.any fun r => lost r p) then false else if (rows.all fun r => kept r p) then true else
      if (winN ks rows n (p ++ [false]) == ks.getD p.length false) || (winN ks rows n (p ++ [true]) == ks.getD p.length false) then ks.getD p.length false else !(ks.getD p.length false)
theorem isRight_full {l : Int} {p : List Bool} {m : Nat} (h : l.natAbs ≤ m) (hp : m ≤ p.length) : isOpen l p = false := by
  simp [isOpen]; omega
theorem lost_full {r : List Int} {p : List Bool} {m : Nat} (h : RowIn m r) (hp : m ≤ p.length) : lost r p = !kept r p := by
  unfold lost kept
  congr 1
  rw [Bool.eq_iff_iff]
  simp only [List.any_eq_true, Bool.or_eq_true]
  constructor
  · rintro ⟨l, hl, q | q⟩
    · exact ⟨l, hl, q⟩
    · rw [isRight_full (h l hl).2 hp] at q
      cases q
  · rintro ⟨l, hl, q⟩
    exact ⟨l, hl, .inl q⟩
theorem winner_eq (ks : List Bool) (rows : List (List Int)) (S : Small ks rows) (h : ∀ r ∈ rows, RowIn ks.length r) : ∀ (n : Nat) (p : List Bool), p.length ≤ ks.length → ks.length < p.length + n →
    mN_winner n [.fz (cD ks rows), .fz (pD p)] = some (.val (kD (winN ks rows n p)), [.un, .un])
  | 0, p, h1, h2 => by omega
  | n + 1, p, h1, h2 => by
    have e1 := compS_map (own := [3]) (src := srcV (opS fIx [nameS 0, cS (.int 1)])) (tgt := tgt1 3) (cond := yesT) (elt := callP m_is_lost [nameS 3, nameS 1]) (ρ := [.fz (cD ks rows), .fz (pD p), .un, .un]) (ρ3 := [.fz (cD ks rows), .fz (pD p), .un, .un]) (o := none) rD (fun r => .bl (lost r p)) rows
      (by simp; rfl) rfl (by have := S.rl; omega) rfl (fun a ha => by simp [lost_eq a p (h a ha).one (by have := S.rr a ha; omega)]) rfl
    have e2 := all_kept_eq ks rows p S fun r hr => (h r hr).one
    cases c1 : rows.any fun r => lost r p with
    | true =>
      simp [mN_winner, e1, fAny_map (fun r => lost r p), c1, winN, kD_all]
    | false =>
      cases c2 : rows.all fun r => kept r p with
      | true => simp [mN_winner, e1, fAny_map (fun r => lost r p), c1, e2, c2, winN, kD_some]
      | false =>
        have hlt : p.length < ks.length := by
          apply Nat.lt_of_not_le
          intro hge
          rw [List.all_eq_false] at c2
          obtain ⟨r, hr, k⟩ := c2
          rw [List.any_eq_false] at c1
          have := c1 r hr
          rw [lost_full (h r hr) hge] at this
          simp at this k
          rw [this] at k
          cases k
        obtain ⟨s, es⟩ : ∃ s, ks[p.length]? = some s := ⟨ks[p.length], List.getElem?_eq_getElem hlt⟩
        have gs : ks.getD p.length false = s := by simp [List.getD, es]
        have r1 := winner_eq ks rows S h n (p ++ [false]) (by simp; omega) (by simp; omega)
        have r2 := winner_eq ks rows S h n (p ++ [true]) (by simp; omega) (by simp; omega)
        have lp : p.length + 1 ≤ 16777216 := by have := S.kl; omega
        simp only [pD, List.map_append, List.map_cons, List.map_nil] at r1 r2
        cases q1 : winN ks rows n (p ++ [false]) == s with
        | true => simp [mN_winner, e1, fAny_map (fun r => lost r p), c1, e2, c2, winN, es, lim, lp, r1, r2, fEq_kD, q1]
        | false =>
          cases q2 : winN ks rows n (p ++ [true]) == s with
          | true => simp [mN_winner, e1, fAny_map (fun r => lost r p), c1, e2, c2, winN, es, lim, lp, r1, r2, fEq_kD, q1, q2]
          | false => simp [mN_winner, e1, fAny_map (fun r => lost r p), c1, e2, c2, winN, es, lim, lp, r1, r2, fEq_kD, q1, q2, other_eq]
def goodN (ks : List Bool) (rows : List (List Int)) (n : Nat) (p : List Bool) : List Bool :=
  if p.length = ks.length then [] else [false, true].filter fun t => winN ks rows n (p ++ [t]) == ks.getD p.length false
theorem good_eq (ks : List Bool) (rows : List (List Int)) (S : Small ks rows) (h : ∀ r ∈ rows, RowIn ks.length r) (p : List Bool) (h1 : p.length ≤ ks.length) (h2 : ks.length < 12) :
    m_good_picks [.fz (cD ks rows), .fz (pD p)] = some (.fr (.lst ((goodN ks rows 12 p).map .bl)), [.un, .un]) := by
  by_cases c : p.length = ks.length
  · simp [m_good_picks, c, goodN, lim]
  · have c' : ¬ ((p.length : Int) = (ks.length : Int)) := by omega
    obtain ⟨s, es⟩ : ∃ s, ks[p.length]? = some s := ⟨ks[p.length]'(by omega), List.getElem?_eq_getElem _⟩
    have lp : p.length + 1 ≤ 16777216 := by have := S.kl; omega
    have e1 := compS_pure (own := [3]) (src := srcV (tupS [cS (.bl false), cS (.bl true)])) (tgt := tgt1 3) (cond := valT (opS fEq [callP m_winner [nameS 0, opS fAdd [nameS 1, tupS [nameS 3]]], nameS 2])) (elt := nameS 3) (ρ := [.fz (cD ks rows), .fz (pD p), .fz (kD s), .un]) (ρ3 := [.fz (cD ks rows), .fz (pD p), .fz (kD s), .un]) (o := none) D.bl (fun t => winN ks rows 12 (p ++ [t]) == s) D.bl [false, true]
      (by simp [lim]; rfl) rfl (by decide) rfl (fun a ha => by
        have r1 := winner_eq ks rows S h 12 (p ++ [a]) (by simp; omega) (by simp; omega)
        simp only [pD, List.map_append, List.map_cons, List.map_nil] at r1
        cases q : winN ks rows 12 (p ++ [a]) == s <;> simp [m_winner, r1, lim, lp, fEq_kD, q]) rfl
    simp only [tupS] at e1
    simp [m_good_picks, c, c', goodN, lim, es, e1]

/-! ### what a claim must be -/
theorem whole_eq (i : Int) : m_is_whole [.fz (.int i)] = some (.val (.bl true), [.un]) := by
  have e : opS (fIsi .int) [nameS 0] [.fz (.int i)] = some (.val (.bl true), [.fz (.int i)]) := by simp [fIsi, Ty.has]
  have e2 : andS (opS (fIsi .int) [nameS 0]) (notS (opS (fIsi .bool) [nameS 0])) [.fz (.int i)] = some (.val (.bl true), [.fz (.int i)]) := by
    rw [andS_bl e]
    simp [fIsi, Ty.has, notS]
  simp [m_is_whole, e2]
theorem kinds_eq (ks : List Bool) (h : ks.length ≤ 8) : m_is_kinds [.fz (.tup (ks.map kD)), .fz (.int 8)] = some (.val (.bl true), [.un, .un]) := by
  have st : ∀ b : Bool, andS (opS (fIsi .str) [nameS 2]) (opS fIn [nameS 2, cS (.tup [.str "all", .str "some"])]) [.fz (.tup (ks.map kD)), .fz (.int 8), .fz (kD b)] = some (.val (.bl true), [.fz (.tup (ks.map kD)), .fz (.int 8), .fz (kD b)]) := fun b => by
    have e : opS (fIsi .str) [nameS 2] [.fz (.tup (ks.map kD)), .fz (.int 8), .fz (kD b)] = some (.val (.bl true), [.fz (.tup (ks.map kD)), .fz (.int 8), .fz (kD b)]) := by simp [fIsi, Ty.has, kD]
    rw [andS_bl e]
    have f : fIn [kD b, .tup [kD false, kD true]] = some (.val (.bl true)) := by
      cases b <;> simp [fIn, plain_kD, eqv_kD]
    have f : fIn [kD b, .tup [.str "all", .str "some"]] = some (.val (.bl true)) := f
    simp [f]
  have e := compS_map (own := [2]) (src := srcV (nameS 0)) (tgt := tgt1 2) (cond := yesT) (elt := andS (opS (fIsi .str) [nameS 2]) (opS fIn [nameS 2, cS (.tup [.str "all", .str "some"])])) (ρ := [.fz (.tup (ks.map kD)), .fz (.int 8), .un]) (ρ3 := [.fz (.tup (ks.map kD)), .fz (.int 8), .un]) (o := none) kD (fun _ => .bl true) ks
    rfl rfl (by omega) rfl (fun a ha => by simp [st a]) rfl
  have h' : ¬ ((8 : Int) < (ks.length : Int)) := by omega
  simp [m_is_kinds, e, fIsi, Ty.has, fAll_map (fun _ => true), h']
theorem sortI_done : ∀ l : List Int, l.Pairwise (· < ·) → sortI l = l
  | [], _ => rfl
  | a :: l, h => by
    rw [List.pairwise_cons] at h
    rw [sortI, sortI_done l h.2]
    cases l with
    | nil => rfl
    | cons b r => rw [insI, if_pos (Int.le_of_lt (h.1 b List.mem_cons_self))]
theorem dedI_done : ∀ l : List Int, l.Pairwise (· < ·) → dedI l = l
  | [], _ => rfl
  | a :: l, h => by
    rw [List.pairwise_cons] at h
    rw [dedI, dedI_done l h.2, if_neg]
    intro z
    have := h.1 a z
    omega
def Inc (r : List Int) : Prop := r.Pairwise fun a b => a.natAbs < b.natAbs
theorem inc_abs {r : List Int} (h : Inc r) : (r.map fun l => (l.natAbs : Int)).Pairwise (· < ·) := by
  rw [List.pairwise_map]
  exact h.imp fun h => by omega
theorem intsOf_ints : ∀ l : List Int, intsOf (l.map .int) = some l
  | [] => rfl
  | a :: l => by simp [intsOf, intsOf_ints l]
theorem plain_ints (l : List Int) : plain (.lst (l.map .int)) = true := by
  simp [plain, D.flatN, D.flat0]
theorem eqvs_refl : ∀ l : List Int, D.eqvs (l.map .int) (l.map .int) = true
  | [] => by simp [D.eqvs]
  | a :: l => by simp [D.eqvs, D.eqv, eqvs_refl l]
theorem row_eq (r : List Int) (m : Nat) (h : RowIn m r) (hi : Inc r) (hl : r.length < 64) : m_is_row [.fz (rD r), .fz (.int m)] = some (.val (.bl true), [.un, .un]) := by
  have st : ∀ a ∈ r, andS (callP m_is_whole [nameS 3]) (chainS fLe fLe (cS (.int 1)) (opS fAbs [nameS 3]) (nameS 1)) [.fz (rD r), .fz (.int m), .un, .fz (.int a)] = some (.val (.bl true), [.fz (rD r), .fz (.int m), .un, .fz (.int a)]) := fun a ha => by
    have e : callP m_is_whole [nameS 3] [.fz (rD r), .fz (.int m), .un, .fz (.int a)] = some (.val (.bl true), [.fz (rD r), .fz (.int m), .un, .fz (.int a)]) := by simp [whole_eq]
    have h1 : (1 : Int) ≤ (a.natAbs : Int) := by have := (h a ha).1; omega
    have h2 := (h a ha).2
    rw [andS_bl e]
    simp [chainS, h1, h2]
  have e := compS_map (own := [3]) (src := srcV (nameS 0)) (tgt := tgt1 3) (cond := yesT) (elt := andS (callP m_is_whole [nameS 3]) (chainS fLe fLe (cS (.int 1)) (opS fAbs [nameS 3]) (nameS 1))) (ρ := [.fz (rD r), .fz (.int m), .un, .un]) (ρ3 := [.fz (rD r), .fz (.int m), .un, .un]) (o := none) D.int (fun _ => .bl true) r
    rfl rfl (by omega) rfl (fun a ha => by simp [st a ha]) rfl
  have e2 := compS_map (own := [3]) (src := srcV (nameS 0)) (tgt := tgt1 3) (cond := yesT) (elt := opS fAbs [nameS 3]) (ρ := [.fz (rD r), .fz (.int m), .un, .un]) (ρ3 := [.fz (rD r), .fz (.int m), .un, .un]) (o := none) D.int (fun l => .int (l.natAbs : Nat)) r
    rfl rfl (by omega) rfl (fun a ha => by simp) rfl
  have e3 : (r.map fun l => D.int (l.natAbs : Nat)) = (r.map fun l => (l.natAbs : Int)).map .int := by simp
  rw [e3] at e2
  generalize hn : (r.map fun l => (l.natAbs : Int)) = ns at e2
  have hp : ns.Pairwise (· < ·) := hn ▸ inc_abs hi
  have hnl : ns.length < 64 := by rw [← hn, List.length_map]; exact hl
  have f1 : fSortSet [.lst (ns.map .int)] = some (.fr (.lst (ns.map .int))) := by
    simp only [fSortSet, intsOf_ints, Option.bind_some, hnl, if_true, dedI_done _ hp, sortI_done _ hp]
  have f2 : fEq [.lst (ns.map .int), .lst (ns.map .int)] = some (.val (.bl true)) := by
    simp only [fEq, plain_ints, D.eqv, eqvs_refl]; rfl
  simp [m_is_row, e, e2, fIsi, Ty.has, fAll_map (fun _ => true), f1, f2]
theorem claim_eq (ks : List Bool) (rows : List (List Int)) (h : ks.length ≤ 8) (hr : rows.length ≤ 20) (h1 : ∀ r ∈ rows, RowIn ks.length r ∧ Inc r ∧ r.length < 64) : m_is_claim [.fz (cD ks rows)] = some (.val (.bl true), [.un]) := by
  have e := compS_map (own := [1]) (src := srcV (opS fIx [nameS 0, cS (.int 1)])) (tgt := tgt1 1) (cond := yesT) (elt := callP m_is_row [nameS 1, opS fLen [opS fIx [nameS 0, cS (.int 0)]]]) (ρ := [.fz (cD ks rows), .un]) (ρ3 := [.fz (cD ks rows), .un]) (o := none) rD (fun _ => .bl true) rows
    (by simp; rfl) rfl (by omega) rfl (fun a ha => by
      have := row_eq a ks.length (h1 a ha).1 (h1 a ha).2.1 (h1 a ha).2.2
      simp [this]) rfl
  have h' : ¬ ((20 : Int) < (rows.length : Int)) := by omega
  simp [m_is_claim, e, fIsi, Ty.has, fAll_map (fun _ => true), h', kinds_eq ks h]
theorem play_eq (ks : List Bool) (rows : List (List Int)) (p : List Bool) (h : p.length ≤ ks.length) (hk : ks.length ≤ 1000) : m_is_play [.fz (cD ks rows), .fz (pD p)] = some (.val (.bl true), [.un, .un]) := by
  have e := compS_map (own := [2]) (src := srcV (nameS 1)) (tgt := tgt1 2) (cond := yesT) (elt := opS (fIsi .bool) [nameS 2]) (ρ := [.fz (cD ks rows), .fz (pD p), .un]) (ρ3 := [.fz (cD ks rows), .fz (pD p), .un]) (o := none) D.bl (fun _ => .bl true) p
    rfl rfl (by omega) rfl (fun a ha => by simp [fIsi, Ty.has]) rfl
  have h' : ¬ ((ks.length : Int) < (p.length : Int)) := by omega
  simp [m_is_play, e, fIsi, Ty.has, fAll_map (fun _ => true), h']
end Al
end
section
namespace Al
open PySem
@[local simp] def u4_run_1 := @run.eq_1
@[local simp] def u4_retS_1 := @retS.eq_1
@[local simp] def u4_opS_1 := @opS.eq_1
@[local simp] def u4_keepS_1 := @keepS.eq_1
@[local simp] def u4_tupS_1 := @tupS.eq_1
@[local simp] def u4_lstS_1 := @lstS.eq_1
@[local simp] def u4_mkTup_1 := @mkTup.eq_1
@[local simp] def u4_mkLst_1 := @mkLst.eq_1
@[local simp] def u4_evs_1 := @evs.eq_1
@[local simp] def u4_evs_2 := @evs.eq_2
@[local simp] def u4_peeks_1 := @peeks.eq_1
@[local simp] def u4_peeks_2 := @peeks.eq_2
@[local simp] def u4_peek_1 := @peek.eq_1
@[local simp] def u4_peek_2 := @peek.eq_2
@[local simp] def u4_peek_3 := @peek.eq_3
@[local simp] def u4_forces_1 := @forces.eq_1
@[local simp] def u4_forces_2 := @forces.eq_2
@[local simp] def u4_force_1 := @force.eq_1
@[local simp] def u4_force_2 := @force.eq_2
@[local simp] def u4_force_3 := @force.eq_3
@[local simp] def u4_forget_1 := @forget.eq_1
@[local simp] def u4_forget_2 := @forget.eq_2
@[local simp] def u4_freezes_1 := @freezes.eq_1
@[local simp] def u4_freezes_2 := @freezes.eq_2
@[local simp] def u4_freezes_3 := @freezes.eq_3
@[local simp] def u4_nameS_1 := @nameS.eq_1
@[local simp] def u4_cS_1 := @cS.eq_1
@[local simp] def u4_seqS_1 := @seqS.eq_1
@[local simp] def u4_nilS_1 := @nilS.eq_1
@[local simp] def u4_ifS_1 := @ifS.eq_1
@[local simp] def u4_asgS_1 := @asgS.eq_1
@[local simp] def u4_putS_eq := @putS_eq
@[local simp] def u4_okPut_un := @okPut_un
@[local simp] def u4_okPut_fz := @okPut_fz
@[local simp] def u4_okPut_ow := @okPut_ow
@[local simp] def u4_exprS_1 := @exprS.eq_1
@[local simp] def u4_valT_1 := @valT.eq_1
@[local simp] def u4_notT_1 := @notT.eq_1
@[local simp] def u4_yesT_1 := @yesT.eq_1
@[local simp] def u4_andT_1 := @andT.eq_1
@[local simp] def u4_orT_1 := @orT.eq_1
@[local simp] def u4_argOk_1 := @argOk.eq_1
@[local simp] def u4_argOk_2 := @argOk.eq_2
@[local simp] def u4_argOk_3 := @argOk.eq_3
@[local simp] def u4_outs_1 := @outs.eq_1
@[local simp] def u4_outs_2 := @outs.eq_2
@[local simp] def u4_outs_3 := @outs.eq_3
@[local simp] def u4_outs_4 := @outs.eq_4
@[local simp] def u4_retR_1 := @retR.eq_1
@[local simp] def u4_retR_2 := @retR.eq_2
@[local simp] def u4_vi_1 := @vi.eq_1
@[local simp] def u4_vb_1 := @vb.eq_1
@[local simp high] def u5_mkLst_nil := @mkLst_nil
@[local simp high] def u5_mkTup_nil := @mkTup_nil
@[local simp] def u6_fAdd_1 := @fAdd.eq_1
@[local simp] def u6_fAdd_2 := @fAdd.eq_2
@[local simp] def u6_fAdd_3 := @fAdd.eq_3
@[local simp] def u6_fAdd_4 := @fAdd.eq_4
@[local simp] def u6_fAdd_5 := @fAdd.eq_5
@[local simp] def u6_fSub_1 := @fSub.eq_1
@[local simp] def u6_fSub_2 := @fSub.eq_2
@[local simp] def u6_fLt_1 := @fLt.eq_1
@[local simp] def u6_fLt_2 := @fLt.eq_2
@[local simp] def u6_fLe_1 := @fLe.eq_1
@[local simp] def u6_fLe_2 := @fLe.eq_2
@[local simp] def u6_fGt_1 := @fGt.eq_1
@[local simp] def u6_fGt_2 := @fGt.eq_2
@[local simp] def u6_fGe_1 := @fGe.eq_1
@[local simp] def u6_fGe_2 := @fGe.eq_2
@[local simp] def u6_fLen_1 := @fLen.eq_1
@[local simp] def u6_fLen_2 := @fLen.eq_2
@[local simp] def u6_fLen_3 := @fLen.eq_3
@[local simp] def u6_fLen_4 := @fLen.eq_4
@[local simp] def u6_fLen_5 := @fLen.eq_5
@[local simp] def u6_fMax2_1 := @fMax2.eq_1
@[local simp] def u6_fMax2_2 := @fMax2.eq_2
@[local simp] def u6_fMin2_1 := @fMin2.eq_1
@[local simp] def u6_fMin2_2 := @fMin2.eq_2
@[local simp] def u6_fTuple_1 := @fTuple.eq_1
@[local simp] def u6_fTuple_2 := @fTuple.eq_2
@[local simp] def u6_fTuple_3 := @fTuple.eq_3
@[local simp] def u6_fList_1 := @fList.eq_1
@[local simp] def u6_fList_2 := @fList.eq_2
@[local simp] def u6_fList_3 := @fList.eq_3
@[local simp] def u6_srcV_1 := @srcV.eq_1
@[local simp] def u6_seqOf_1 := @seqOf.eq_1
@[local simp] def u6_seqOf_2 := @seqOf.eq_2
@[local simp] def u6_seqOf_3 := @seqOf.eq_3
@[local simp] def u6_maskS_1 := @maskS.eq_1
@[local simp] def u6_maskS_2 := @maskS.eq_2
@[local simp] def u6_backS_1 := @backS.eq_1
@[local simp] def u6_backS_2 := @backS.eq_2
@[local simp] def u6_wipeS_1 := @wipeS.eq_1
@[local simp] def u6_wipeS_2 := @wipeS.eq_2
@[local simp] def u6_unwipeS_1 := @unwipeS.eq_1
@[local simp] def u6_unwipeS_2 := @unwipeS.eq_2
@[local simp] def u6_freeOf_1 := @freeOf.eq_1
@[local simp] def u6_freeOf_2 := @freeOf.eq_2
@[local simp] def u6_tgt1_1 := @tgt1.eq_1
@[local simp] def u6_stepL_1 := @stepL.eq_1
@[local simp] def u6_callP_1 := @callP.eq_1
@[local simp] def u6_ifxS_1 := @ifxS.eq_1
@[local simp] def u7_fIx_t0 := @fIx_t0
@[local simp] def u7_fIx_t1 := @fIx_t1
@[local simp] def u7_fIx_l0 := @fIx_l0
@[local simp] def u7_fIx_l1 := @fIx_l1
@[local simp] def u7_fIx_tupN := @fIx_tupN
@[local simp] def u7_fIx_lstN := @fIx_lstN
@[local simp] def u7_fIx_frzN := @fIx_frzN
@[local simp] def u7_fEq_int := @fEq_int
@[local simp] def u7_fEq_bl := @fEq_bl
@[local simp] def u7_fNe_int := @fNe_int
@[local simp] def u7_fNe_bl := @fNe_bl
@[local simp] def u7_fAbs_eq := @fAbs_eq
@[local simp] def u7_fMod_1 := @fMod.eq_1
@[local simp] def u7_fMod_2 := @fMod.eq_2
@[local simp] def u7_fDiv_1 := @fDiv.eq_1
@[local simp] def u7_fDiv_2 := @fDiv.eq_2
@[local simp] def u7_fMul_1 := @fMul.eq_1
@[local simp] def u7_fMul_2 := @fMul.eq_2
@[local simp] def u7_fMul_3 := @fMul.eq_3
@[local simp] def u7_fPow_1 := @fPow.eq_1
@[local simp] def u7_fPow_2 := @fPow.eq_2
@[local simp] def u8_callS_1 := @callS.eq_1
@[local simp] def u8_frzA_1 := @frzA.eq_1
@[local simp] def u8_frzA_2 := @frzA.eq_2
@[local simp] def u8_frzA_3 := @frzA.eq_3
@[local simp] def u8_frzA_4 := @frzA.eq_4
@[local simp] def u8_argA_1 := @argA.eq_1
@[local simp] def u8_argA_2 := @argA.eq_2
@[local simp] def u8_argA_3 := @argA.eq_3
@[local simp] def u8_argA_4 := @argA.eq_4
@[local simp] def u8_argA_5 := @argA.eq_5
@[local simp] def u8_ioIx_1 := @ioIx.eq_1
@[local simp] def u8_ioIx_2 := @ioIx.eq_2
@[local simp] def u8_ioIx_3 := @ioIx.eq_3
@[local simp] def u8_backA_1 := @backA.eq_1
@[local simp] def u8_backA_2 := @backA.eq_2
@[local simp] def u8_backA_3 := @backA.eq_3
@[local simp] def u8_backA_4 := @backA.eq_4
@[local simp] def u8_setS_1 := @setS.eq_1
@[local simp] def u8_owLst_1 := @owLst.eq_1
@[local simp] def u8_owLst_2 := @owLst.eq_2
@[local simp] def u8_isLst_1 := @isLst.eq_1
@[local simp] def u8_isLst_2 := @isLst.eq_2

def isFeed (d : D) : Prop := ∃ a b, d = .lst [.int a, .int b]
theorem take_ok {f : D} (hf : isFeed f) (m : Int) (h : 0 < m) (h2 : m < 1073741824) :
    ∃ (r : Nat) (f' : D), (r : Int) < m ∧ isFeed f' ∧ m__law_take [.ow true f, .fz (.int m)] = some (.val (.int r), [.ow true f', .un]) := by
  obtain ⟨a, b, rfl⟩ := hf
  have e1 : ixOf 2 0 = some 0 := rfl
  have e2 : ixOf 2 1 = some 1 := rfl
  have b1 : b64 69621 = true := by decide
  by_cases c : 0 < a
  · have h3 : 0 ≤ a % (m : Int) := Int.emod_nonneg _ (by omega)
    have h4 : a % (m : Int) < m := Int.emod_lt_of_pos _ (by omega)
    refine ⟨(a % m).toNat, .lst [.int (a / m), .int b], by omega, ⟨_, _, rfl⟩, ?_⟩
    rw [Int.toNat_of_nonneg h3]
    simp [m__law_take, c, h, h2, e1, e2]
  · generalize hv : (b * 69621 + 12345) % 2147483647 = v
    have h3 : 0 ≤ v / 8191 % (m : Int) := Int.emod_nonneg _ (by omega)
    have h4 : v / 8191 % (m : Int) < m := Int.emod_lt_of_pos _ (by omega)
    refine ⟨(v / 8191 % m).toNat, .lst [.int a, .int v], by omega, ⟨_, _, rfl⟩, ?_⟩
    rw [Int.toNat_of_nonneg h3]
    simp [m__law_take, c, h, e1, e2, b1, hv]
theorem pick_ok {f : D} (hf : isFeed f) (l : List D) (h : l ≠ []) (h2 : l.length < 1073741824) :
    ∃ (x : D) (f' : D), x ∈ l ∧ isFeed f' ∧ m__law_pick [.ow true f, .fz (.lst l)] = some (.val x, [.ow true f', .un]) := by
  obtain ⟨r, f', hr, hf', e⟩ := take_ok hf l.length (by have := List.length_pos_iff.mpr h; omega) (by omega)
  have hr : r < l.length := by omega
  refine ⟨l[r], f', List.getElem_mem hr, hf', ?_⟩
  simp [m__law_pick, e, List.getElem?_eq_getElem hr]
theorem pick_ok2 {f : D} (hf : isFeed f) (l : List D) (h : l ≠ []) (h2 : l.length < 1073741824) :
    ∃ (x : D) (f' : D), x ∈ l ∧ isFeed f' ∧ m__law_pick [.ow true f, .ow true (.lst l)] = some (.val x, [.ow true f', .ow true (.lst l)]) := by
  obtain ⟨r, f', hr, hf', e⟩ := take_ok hf l.length (by have := List.length_pos_iff.mpr h; omega) (by omega)
  have hr : r < l.length := by omega
  refine ⟨l[r], f', List.getElem_mem hr, hf', ?_⟩
  simp [m__law_pick, e, List.getElem?_eq_getElem hr]
theorem feed_ok (ns : List Int) (k : Nat) : ∃ f, isFeed f ∧ m__law_feed [.fz (.frz (ns.map .int)), .fz (.int k)] = some (.fr f, [.un, .un]) := by
  have main : ∀ cell : Int, ∃ f, isFeed f ∧ (seqS (asgS 3 (cS (.int 0)))
      (seqS (ifS (valT (opS fGe [nameS 2, opS fPow [cS (.int 10), cS (.int 18)]])) (asgS 3 (opS fSub [nameS 2, opS fPow [cS (.int 10), cS (.int 18)]])) (nilS))
      (seqS (asgS 4 (opS fMod [opS fAdd [opS fAdd [opS fMul [opS fMod [nameS 2, cS (.int 2147483647)], cS (.int 48271)], opS fMul [cS (.int 7919), nameS 1]], cS (.int 5)], cS (.int 2147483629)]))
      (retS (lstS [nameS 3, opS fAdd [opS fMod [opS fPow [nameS 4, cS (.int 5)], cS (.int 2147483587)], cS (.int 1)]]))))) [.fz (.frz (ns.map .int)), .fz (.int k), .fz (.int cell), .un, .un] = some (.rt (.fr f), [.fz (.frz (ns.map .int)), .fz (.int k), .fz (.int cell), .fz (.int (if cell ≥ 10 ^ 18 then cell - 10 ^ 18 else 0)), .fz (.int ((cell % 2147483647 * 48271 + 7919 * k + 5) % 2147483629))]) := fun cell => by
    have b1 : b64 48271 = true := by decide
    have b2 : b64 7919 = true := by decide
    generalize hs : (cell % 2147483647 * 48271 + 7919 * (k : Int) + 5) % 2147483629 = s
    have h3 : 0 ≤ s := hs ▸ Int.emod_nonneg _ (by decide)
    have h4 : s < 2147483629 := hs ▸ Int.emod_lt_of_pos _ (by decide)
    have h5 : s.natAbs < 18446744073709551616 := by omega
    refine ⟨.lst [.int (if cell ≥ 10 ^ 18 then cell - 10 ^ 18 else 0), .int (s ^ 5 % 2147483587 + 1)], ⟨_, _, rfl⟩, ?_⟩
    by_cases c : (1000000000000000000 : Int) ≤ cell
    · simp [b1, b2, hs, h5, c, lim]
    · simp [b1, b2, hs, h5, c, lim]
  by_cases c : k < ns.length
  · obtain ⟨f, hf, e⟩ := main ns[k]
    refine ⟨f, hf, ?_⟩
    simp only [m__law_feed, run]
    have e0 : ns[k]? = some ns[k] := List.getElem?_eq_getElem c
    simp [c, e0] at e ⊢
    simp [e]
  · obtain ⟨f, hf, e⟩ := main 0
    refine ⟨f, hf, ?_⟩
    simp only [m__law_feed, run]
    simp [c] at e ⊢
    simp [e]

theorem fPop_nat (l : List D) (k : Nat) (h : k < l.length) (hl : l.length ≤ lim) : fPop l [.int (k : Nat)] = some (l[k], l.eraseIdx k) := by
  have h1 : ¬ ((k : Int) < 0) := by omega
  simp [fPop, hl, ixOf, h, List.getElem?_eq_getElem h]
/-- what the drawing of a row keeps: names left, names found -/
structure RowInv (m : Nat) (nm fd : List Int) (k : Nat) : Prop where
  ln : nm.length + k = m
  lf : fd.length = k
  nd : nm.Nodup
  fnd : fd.Nodup
  dj : ∀ x ∈ fd, x ∉ nm
  ni : ∀ x ∈ nm, 1 ≤ x ∧ x ≤ m
  fi : ∀ x ∈ fd, 1 ≤ x ∧ x ≤ m
theorem RowInv.next {m : Nat} {nm fd : List Int} {k j : Nat} (h : RowInv m nm fd k) (hj : j < nm.length) : RowInv m (nm.eraseIdx j) (fd ++ [nm[j]]) (k + 1) := by
  have hx : nm[j] ∈ nm := List.getElem_mem hj
  have hs : ∀ x ∈ nm.eraseIdx j, x ∈ nm := fun x hx => List.mem_of_mem_eraseIdx hx
  have hne : nm[j] ∉ nm.eraseIdx j := by
    intro z
    have nd := h.nd
    rw [List.mem_eraseIdx_iff_getElem] at z
    obtain ⟨i, hi, ne, e⟩ := z
    exact ne ((List.getElem_inj nd).mp e)
  refine ⟨?_, by simp [h.lf], h.nd.sublist (List.eraseIdx_sublist _ _), ?_, ?_, fun x hx => h.ni x (hs x hx), ?_⟩
  · rw [List.length_eraseIdx_of_lt hj]
    have := h.ln
    omega
  · rw [List.nodup_append]
    refine ⟨h.fnd, by simp, fun x hx' y hy => ?_⟩
    simp at hy
    subst hy
    rintro rfl
    exact h.dj _ hx' hx
  · intro x hx'
    rw [List.mem_append] at hx'
    rcases hx' with hx' | hx'
    · exact fun z => h.dj x hx' (hs x z)
    · simp at hx'
      subst hx'
      exact hne
  · intro x hx'
    rw [List.mem_append] at hx'
    rcases hx' with hx' | hx'
    · exact h.fi x hx'
    · simp at hx'
      subst hx'
      exact h.ni _ hx
end Al
end
section
namespace Al
open PySem
@[local simp] def u9_run_1 := @run.eq_1
@[local simp] def u9_retS_1 := @retS.eq_1
@[local simp] def u9_opS_1 := @opS.eq_1
@[local simp] def u9_keepS_1 := @keepS.eq_1
@[local simp] def u9_tupS_1 := @tupS.eq_1
@[local simp] def u9_lstS_1 := @lstS.eq_1
@[local simp] def u9_mkTup_1 := @mkTup.eq_1
@[local simp] def u9_mkLst_1 := @mkLst.eq_1
@[local simp] def u9_evs_1 := @evs.eq_1
@[local simp] def u9_evs_2 := @evs.eq_2
@[local simp] def u9_peeks_1 := @peeks.eq_1
@[local simp] def u9_peeks_2 := @peeks.eq_2
@[local simp] def u9_peek_1 := @peek.eq_1
@[local simp] def u9_peek_2 := @peek.eq_2
@[local simp] def u9_peek_3 := @peek.eq_3
@[local simp] def u9_forces_1 := @forces.eq_1
@[local simp] def u9_forces_2 := @forces.eq_2
@[local simp] def u9_force_1 := @force.eq_1
@[local simp] def u9_force_2 := @force.eq_2
@[local simp] def u9_force_3 := @force.eq_3
@[local simp] def u9_forget_1 := @forget.eq_1
@[local simp] def u9_forget_2 := @forget.eq_2
@[local simp] def u9_freezes_1 := @freezes.eq_1
@[local simp] def u9_freezes_2 := @freezes.eq_2
@[local simp] def u9_freezes_3 := @freezes.eq_3
@[local simp] def u9_nameS_1 := @nameS.eq_1
@[local simp] def u9_cS_1 := @cS.eq_1
@[local simp] def u9_seqS_1 := @seqS.eq_1
@[local simp] def u9_nilS_1 := @nilS.eq_1
@[local simp] def u9_ifS_1 := @ifS.eq_1
@[local simp] def u9_asgS_1 := @asgS.eq_1
@[local simp] def u9_putS_eq := @putS_eq
@[local simp] def u9_okPut_un := @okPut_un
@[local simp] def u9_okPut_fz := @okPut_fz
@[local simp] def u9_okPut_ow := @okPut_ow
@[local simp] def u9_exprS_1 := @exprS.eq_1
@[local simp] def u9_valT_1 := @valT.eq_1
@[local simp] def u9_notT_1 := @notT.eq_1
@[local simp] def u9_yesT_1 := @yesT.eq_1
@[local simp] def u9_andT_1 := @andT.eq_1
@[local simp] def u9_orT_1 := @orT.eq_1
@[local simp] def u9_argOk_1 := @argOk.eq_1
@[local simp] def u9_argOk_2 := @argOk.eq_2
@[local simp] def u9_argOk_3 := @argOk.eq_3
@[local simp] def u9_outs_1 := @outs.eq_1
@[local simp] def u9_outs_2 := @outs.eq_2
@[local simp] def u9_outs_3 := @outs.eq_3
@[local simp] def u9_outs_4 := @outs.eq_4
@[local simp] def u9_retR_1 := @retR.eq_1
@[local simp] def u9_retR_2 := @retR.eq_2
@[local simp] def u9_vi_1 := @vi.eq_1
@[local simp] def u9_vb_1 := @vb.eq_1
@[local simp high] def u10_mkLst_nil := @mkLst_nil
@[local simp high] def u10_mkTup_nil := @mkTup_nil
@[local simp] def u11_fAdd_1 := @fAdd.eq_1
@[local simp] def u11_fAdd_2 := @fAdd.eq_2
@[local simp] def u11_fAdd_3 := @fAdd.eq_3
@[local simp] def u11_fAdd_4 := @fAdd.eq_4
@[local simp] def u11_fAdd_5 := @fAdd.eq_5
@[local simp] def u11_fSub_1 := @fSub.eq_1
@[local simp] def u11_fSub_2 := @fSub.eq_2
@[local simp] def u11_fLt_1 := @fLt.eq_1
@[local simp] def u11_fLt_2 := @fLt.eq_2
@[local simp] def u11_fLe_1 := @fLe.eq_1
@[local simp] def u11_fLe_2 := @fLe.eq_2
@[local simp] def u11_fGt_1 := @fGt.eq_1
@[local simp] def u11_fGt_2 := @fGt.eq_2
@[local simp] def u11_fGe_1 := @fGe.eq_1
@[local simp] def u11_fGe_2 := @fGe.eq_2
@[local simp] def u11_fLen_1 := @fLen.eq_1
@[local simp] def u11_fLen_2 := @fLen.eq_2
@[local simp] def u11_fLen_3 := @fLen.eq_3
@[local simp] def u11_fLen_4 := @fLen.eq_4
@[local simp] def u11_fLen_5 := @fLen.eq_5
@[local simp] def u11_fMax2_1 := @fMax2.eq_1
@[local simp] def u11_fMax2_2 := @fMax2.eq_2
@[local simp] def u11_fMin2_1 := @fMin2.eq_1
@[local simp] def u11_fMin2_2 := @fMin2.eq_2
@[local simp] def u11_fTuple_1 := @fTuple.eq_1
@[local simp] def u11_fTuple_2 := @fTuple.eq_2
@[local simp] def u11_fTuple_3 := @fTuple.eq_3
@[local simp] def u11_fList_1 := @fList.eq_1
@[local simp] def u11_fList_2 := @fList.eq_2
@[local simp] def u11_fList_3 := @fList.eq_3
@[local simp] def u11_srcV_1 := @srcV.eq_1
@[local simp] def u11_seqOf_1 := @seqOf.eq_1
@[local simp] def u11_seqOf_2 := @seqOf.eq_2
@[local simp] def u11_seqOf_3 := @seqOf.eq_3
@[local simp] def u11_maskS_1 := @maskS.eq_1
@[local simp] def u11_maskS_2 := @maskS.eq_2
@[local simp] def u11_backS_1 := @backS.eq_1
@[local simp] def u11_backS_2 := @backS.eq_2
@[local simp] def u11_wipeS_1 := @wipeS.eq_1
@[local simp] def u11_wipeS_2 := @wipeS.eq_2
@[local simp] def u11_unwipeS_1 := @unwipeS.eq_1
@[local simp] def u11_unwipeS_2 := @unwipeS.eq_2
@[local simp] def u11_freeOf_1 := @freeOf.eq_1
@[local simp] def u11_freeOf_2 := @freeOf.eq_2
@[local simp] def u11_tgt1_1 := @tgt1.eq_1
@[local simp] def u11_stepL_1 := @stepL.eq_1
@[local simp] def u11_callP_1 := @callP.eq_1
@[local simp] def u11_ifxS_1 := @ifxS.eq_1
@[local simp] def u12_fIx_t0 := @fIx_t0
@[local simp] def u12_fIx_t1 := @fIx_t1
@[local simp] def u12_fIx_l0 := @fIx_l0
@[local simp] def u12_fIx_l1 := @fIx_l1
@[local simp] def u12_fIx_tupN := @fIx_tupN
@[local simp] def u12_fIx_lstN := @fIx_lstN
@[local simp] def u12_fIx_frzN := @fIx_frzN
@[local simp] def u12_fEq_int := @fEq_int
@[local simp] def u12_fEq_bl := @fEq_bl
@[local simp] def u12_fNe_int := @fNe_int
@[local simp] def u12_fNe_bl := @fNe_bl
@[local simp] def u12_fAbs_eq := @fAbs_eq
@[local simp] def u12_fMod_1 := @fMod.eq_1
@[local simp] def u12_fMod_2 := @fMod.eq_2
@[local simp] def u12_fDiv_1 := @fDiv.eq_1
@[local simp] def u12_fDiv_2 := @fDiv.eq_2
@[local simp] def u12_fMul_1 := @fMul.eq_1
@[local simp] def u12_fMul_2 := @fMul.eq_2
@[local simp] def u12_fMul_3 := @fMul.eq_3
@[local simp] def u12_fPow_1 := @fPow.eq_1
@[local simp] def u12_fPow_2 := @fPow.eq_2
@[local simp] def u13_callS_1 := @callS.eq_1
@[local simp] def u13_frzA_1 := @frzA.eq_1
@[local simp] def u13_frzA_2 := @frzA.eq_2
@[local simp] def u13_frzA_3 := @frzA.eq_3
@[local simp] def u13_frzA_4 := @frzA.eq_4
@[local simp] def u13_argA_1 := @argA.eq_1
@[local simp] def u13_argA_2 := @argA.eq_2
@[local simp] def u13_argA_3 := @argA.eq_3
@[local simp] def u13_argA_4 := @argA.eq_4
@[local simp] def u13_argA_5 := @argA.eq_5
@[local simp] def u13_ioIx_1 := @ioIx.eq_1
@[local simp] def u13_ioIx_2 := @ioIx.eq_2
@[local simp] def u13_ioIx_3 := @ioIx.eq_3
@[local simp] def u13_backA_1 := @backA.eq_1
@[local simp] def u13_backA_2 := @backA.eq_2
@[local simp] def u13_backA_3 := @backA.eq_3
@[local simp] def u13_backA_4 := @backA.eq_4
@[local simp] def u13_setS_1 := @setS.eq_1
@[local simp] def u13_owLst_1 := @owLst.eq_1
@[local simp] def u13_owLst_2 := @owLst.eq_2
@[local simp] def u13_isLst_1 := @isLst.eq_1
@[local simp] def u13_isLst_2 := @isLst.eq_2

theorem all2_row {m : Nat} : ∀ {xs : List Int} {ds : List D}, All2 (fun x d => d = .int x ∨ d = .int (-x)) xs ds → (∀ x ∈ xs, 1 ≤ x ∧ x ≤ m) → ∃ r : List Int, ds = r.map .int ∧ (r.map fun l => (l.natAbs : Int)) = xs ∧ RowIn m r
  | [], _, .nil, _ => ⟨[], rfl, rfl, fun l hl => by cases hl⟩
  | x :: xs, _, .cons (d := d) h t, k => by
    obtain ⟨r, rfl, e, q⟩ := all2_row t fun y hy => k y (List.mem_cons_of_mem _ hy)
    have kx := k x List.mem_cons_self
    rcases h with rfl | rfl
    · refine ⟨x :: r, rfl, ?_, fun l hl => ?_⟩
      · rw [List.map_cons, e]
        congr 1
        omega
      · rcases List.mem_cons.mp hl with rfl | hl
        · omega
        · exact q l hl
    · refine ⟨-x :: r, rfl, ?_, fun l hl => ?_⟩
      · rw [List.map_cons, e]
        congr 1
        omega
      · rcases List.mem_cons.mp hl with rfl | hl
        · omega
        · exact q l hl
theorem fListRng1 (m : Nat) (h : m ≤ 1000) : fListRng [.int 1, .int ((m : Int) + 1)] = some (.fr (.lst (((List.range m).map fun i : Nat => (1 + (i : Int))).map .int))) := by
  have h1 : inB 1 = true := by decide
  have h2 : inB ((m : Int) + 1) = true := inB_of (by omega) (by omega)
  have e : ((m : Int) + 1 - 1).toNat = m := by omega
  have hl : m ≤ lim := by unfold lim; omega
  simp only [fListRng, rngF, h1, h2, Bool.and_self, if_true, Option.bind_some, rngD, e, List.length_map, List.length_range, hl, List.map_map]
  rfl
theorem sorted_lt {l : List Int} (h : l.Nodup) : (sortI l).Pairwise (· < ·) := by
  have h1 := sortI_sorted l
  have h2 : (sortI l).Nodup := (sortI_perm l).nodup_iff.mpr h
  exact (List.pairwise_and_iff.mpr ⟨h1, h2⟩).imp fun ⟨a, b⟩ => by omega
/-- the frame of _law_row in its loop -/
def rowS (m z : Nat) (szs : List Nat) (f : D) (nm fd : List Int) (t u : S) : Rho := [.ow true f, .fz (.int m), .fz (.lst (szs.map (fun s : Nat => D.int s))), .fz (.int z), .ow false (.lst (nm.map .int)), .ow false (.lst (fd.map .int)), t, u]
theorem row_turn {f : D} (hf : isFeed f) {m z : Nat} (hm : m ≤ 1000) {szs : List Nat} {nm fd : List Int} {t : S} {j : Nat} (ht : okPut (some t) = true) (iv : RowInv m nm fd j) (hj : j < m) (x : D) :
    ∃ f' nm' fd', isFeed f' ∧ RowInv m nm' fd' (j + 1) ∧ tgt1 6 x (rowS m z szs f nm fd t .un) = some (rowS m z szs f nm fd (.fz x) .un) ∧
      exprS (mutS 5 fAppend [mutS 4 fPop [callS m__law_take [true, false] [nameS 0, opS fLen [nameS 4]]]]) (rowS m z szs f nm fd (.fz x) .un) = some (.nx, rowS m z szs f' nm' fd' (.fz x) .un) := by
  have ln := iv.ln
  have lf := iv.lf
  obtain ⟨r, f', hr, hf', e⟩ := take_ok hf (nm.length : Nat) (by omega) (by omega)
  have hrl : r < nm.length := by omega
  have hp := fPop_nat (nm.map .int) r (by simpa using hrl) (by simp [lim]; omega)
  have hrl2 : fd.length < 16777216 := by omega
  refine ⟨f', _, _, hf', iv.next hrl, by simp [rowS, ht], ?_⟩
  simp [rowS, mutS, e, hp, fAppend, lim, hrl2, map_eraseIdx']
theorem row_pick {f : D} (hf : isFeed f) {m z : Nat} {szs : List Nat} {nm fd : List Int} {t : S} (x : Int) : ∃ d f', isFeed f' ∧ (d = .int x ∨ d = .int (-x)) ∧
    stepL [7] (tgt1 7) yesT (opS fIx [lstS [nameS 7, opS fNeg [nameS 7]], callS m__law_take [true, false] [nameS 0, cS (.int 2)]]) (.int x) (rowS m z szs f nm fd t .un) = some (some d, rowS m z szs f' nm fd t .un) := by
  obtain ⟨r, f', hr, hf', e⟩ := take_ok hf 2 (by decide) (by decide)
  have : r = 0 ∨ r = 1 := by omega
  rcases this with rfl | rfl
  · refine ⟨.int x, f', hf', .inl rfl, ?_⟩
    simp at e
    simp [rowS, e, lim, fNeg]
  · refine ⟨.int (-x), f', hf', .inr rfl, ?_⟩
    simp at e
    simp [rowS, e, lim, fNeg]
theorem row_end {f : D} (hf : isFeed f) {m z : Nat} (hm : m ≤ 1000) {szs : List Nat} {nm fd : List Int} {t : S} {k : Nat} (iv : RowInv m nm fd k) : ∃ (r : List Int) (f' : D), RowIn m r ∧ Inc r ∧ r.length ≤ m ∧ isFeed f' ∧
    retS (opS fTuple [compS [7] (srcV (opS fSortI [nameS 5])) (tgt1 7) (yesT) (opS fIx [lstS [nameS 7, opS fNeg [nameS 7]], callS m__law_take [true, false] [nameS 0, cS (.int 2)]])]) (rowS m z szs f nm fd t .un) =
      some (.rt (.val (rD r)), rowS m z szs f' nm fd t .un) := by
  obtain ⟨ds, ρC, eC, ⟨f5, hf5, rfl⟩, a2⟩ := compL_rel (own := [7]) (tgt := tgt1 7) (cond := yesT) (elt := opS fIx [lstS [nameS 7, opS fNeg [nameS 7]], callS m__law_take [true, false] [nameS 0, cS (.int 2)]])
    (fun ρ => ∃ f, isFeed f ∧ ρ = rowS m z szs f nm fd t .un) D.int (fun x d => d = .int x ∨ d = .int (-x)) (sortI fd) _ ⟨f, hf, rfl⟩ (by
      rintro x hx ρ ⟨f, hf, rfl⟩
      obtain ⟨d, f', hf', hd, e⟩ := row_pick hf x
      exact ⟨d, _, e, ⟨f', hf', rfl⟩, hd⟩)
  obtain ⟨r, rfl, er, hr⟩ := all2_row (m := m) a2 fun x hx => iv.fi x ((sortI_perm fd).mem_iff.mp hx)
  have hinc : Inc r := by
    have := sorted_lt iv.fnd
    rw [← er, List.pairwise_map] at this
    exact this.imp fun h => by omega
  have hrl : r.length = fd.length := by
    have := congrArg List.length er
    rw [List.length_map, (sortI_perm fd).length_eq] at this
    exact this
  have ln := iv.ln
  have lf := iv.lf
  refine ⟨r, f5, hr, hinc, by omega, hf5, ?_⟩
  have eS : fSortI [.lst (fd.map .int)] = some (.fr (.lst ((sortI fd).map .int))) := by simp [fSortI, intsOf_ints]
  have hsl : (sortI fd).length ≤ 1000000 := by rw [(sortI_perm fd).length_eq]; omega
  simp only [lstS, rowS] at eC
  simp [rowS, compS, eS, hsl, eC]
theorem row_sizes {f : D} (hf : isFeed f) (m : Nat) : ∃ (z : Nat) (szs : List Nat) (f' : D), z ≤ m ∧ isFeed f' ∧
    seqS (asgS 2 (lstS [cS (.int 1), cS (.int 2), cS (.int 2), cS (.int 3), cS (.int 3), cS (.int 4), cS (.int 2), cS (.int 3), cS (.int 1), opS fAdd [cS (.int 5), callS m__law_take [true, false] [nameS 0, cS (.int 4)]], cS (.int 2), opS fMul [cS (.int 2), opS fInt [opS fGt [callS m__law_take [true, false] [nameS 0, cS (.int 6)], cS (.int 0)]]]]))
      (asgS 3 (opS fMin2 [nameS 1, callS m__law_pick [true, false] [nameS 0, nameS 2]])) [.ow true f, .fz (.int m), .un, .un, .un, .un, .un, .un] =
      some (.nx, [.ow true f', .fz (.int m), .fz (.lst (szs.map (fun s : Nat => D.int s))), .fz (.int z), .un, .un, .un, .un]) := by
  obtain ⟨r1, f1, h1, hf1, e1⟩ := take_ok hf 4 (by decide) (by decide)
  obtain ⟨r2, f2, h2, hf2, e2⟩ := take_ok hf1 6 (by decide) (by decide)
  obtain ⟨szs, hszs, hsz12⟩ : ∃ szs : List Nat, [D.int 1, .int 2, .int 2, .int 3, .int 3, .int 4, .int 2, .int 3, .int 1, .int (5 + (r1 : Int)), .int 2, .int (2 * (if 0 < r2 then 1 else 0))] = szs.map (fun s : Nat => .int s) ∧ szs.length = 12 := by
    by_cases c : 0 < r2
    · exact ⟨[1, 2, 2, 3, 3, 4, 2, 3, 1, 5 + r1, 2, 2], by simp [c], rfl⟩
    · exact ⟨[1, 2, 2, 3, 3, 4, 2, 3, 1, 5 + r1, 2, 0], by simp [c], rfl⟩
  obtain ⟨x, f3, hx, hf3, e3⟩ := pick_ok hf2 (szs.map (fun s : Nat => D.int s)) (by intro z; have := congrArg List.length z; simp [hsz12] at this) (by simp [hsz12])
  obtain ⟨s, hs, rfl⟩ := List.mem_map.mp hx
  obtain ⟨z, hz, hzm⟩ : ∃ z : Nat, (if s < m then (s : Int) else m) = z ∧ z ≤ m := by
    split
    · exact ⟨s, rfl, by omega⟩
    · exact ⟨m, rfl, by omega⟩
  refine ⟨z, szs, f3, hzm, hf3, ?_⟩
  have b2 : b64 2 = true := by decide
  simp [e1, e2, lim, fInt, b2, hsz12, hszs, e3, hz]
theorem seq3 (a b c : MS) (ρ : Rho) : seqS a (seqS b c) ρ = seqS (seqS a b) c ρ := by
  simp only [seqS]
  cases a ρ with
  | none => rfl
  | some p =>
    obtain ⟨fl, ρ1⟩ := p
    cases fl <;> rfl
theorem seq_nx {a b : MS} {ρ ρ1 : Rho} (h : a ρ = some (.nx, ρ1)) : seqS a b ρ = b ρ1 := by
  simp only [seqS, h]; rfl
theorem row_ok {f : D} (hf : isFeed f) (m : Nat) (hm : m ≤ 1000) : ∃ (r : List Int) (f' : D), RowIn m r ∧ Inc r ∧ r.length ≤ m ∧ isFeed f' ∧ m__law_row [.ow true f, .fz (.int m)] = some (.val (rD r), [.ow true f', .un]) := by
  obtain ⟨z, szs, f3, hzm, hf3, e1⟩ := row_sizes hf m
  obtain ⟨nm0, eN, iN⟩ : ∃ nm : List Int, fListRng [.int 1, .int ((m : Int) + 1)] = some (.fr (.lst (nm.map .int))) ∧ RowInv m nm [] 0 := by
    refine ⟨_, fListRng1 m hm, by simp, rfl, ?_, by simp, by simp, ?_, by simp⟩
    · rw [List.nodup_iff_pairwise_ne, List.pairwise_map]
      exact List.nodup_range.imp fun h => by omega
    · intro x hx
      obtain ⟨i, hi, rfl⟩ := List.mem_map.mp hx
      have := List.mem_range.mp hi
      omega
  obtain ⟨ρL, eL, f4, nm, fd, t, hf4, iv, ht, rfl⟩ := loopS_inv (tgt := tgt1 6) (body := exprS (mutS 5 fAppend [mutS 4 fPop [callS m__law_take [true, false] [nameS 0, opS fLen [nameS 4]]]]))
    (fun k ρ => ∃ (f : D) (nm fd : List Int) (t : S), isFeed f ∧ RowInv m nm fd k ∧ okPut (some t) = true ∧ ρ = rowS m z szs f nm fd t .un) (rngD 0 z) 0 (rowS m z szs f3 nm0 [] .un .un) ⟨f3, nm0, [], .un, hf3, iN, rfl, rfl⟩ (by
    rintro j x hx ρ ⟨f, nm, fd, t, hf, iv, ht, rfl⟩
    have hj : j < z := by
      have := (List.getElem?_eq_some_iff.mp hx).1
      simpa [rngD] using this
    obtain ⟨f', nm', fd', hf', iv', q1, q2⟩ := row_turn (z := z) (szs := szs) hf hm ht iv (by omega) x
    exact ⟨_, _, q1, q2, f', nm', fd', _, hf', iv', okPut_fz x, rfl⟩)
  obtain ⟨r, f5, hr, hi, hl, hf5, eE⟩ := row_end (z := z) (szs := szs) (t := t) hf4 hm iv
  refine ⟨r, f5, hr, hi, hl, hf5, ?_⟩
  have e2 : asgS 4 (opS fListRng [cS (.int 1), opS fAdd [nameS 1, cS (.int 1)]]) [.ow true f3, .fz (.int m), .fz (.lst (szs.map (fun s : Nat => D.int s))), .fz (.int z), .un, .un, .un, .un] = some (.nx, [.ow true f3, .fz (.int m), .fz (.lst (szs.map (fun s : Nat => D.int s))), .fz (.int z), .ow false (.lst (nm0.map .int)), .un, .un, .un]) :=
by
    have e : opS fListRng [cS (.int 1), opS fAdd [nameS 1, cS (.int 1)]] [.ow true f3, .fz (.int m), .fz (.lst (szs.map (fun s : Nat => D.int s))), .fz (.int z), .un, .un, .un, .un] = some (.fr (.lst (nm0.map .int)), [.ow true f3, .fz (.int m), .fz (.lst (szs.map (fun s : Nat => D.int s))), .fz (.int z), .un, .un, .un, .un]) := by
      refine opS_ok (rs := [.val (.int 1), .val (.int ((m : Int) + 1))]) ?_ rfl eN
      simp
    rw [asgS_fr e rfl]
    rfl
  have e3 : asgS 5 (lstS []) [.ow true f3, .fz (.int m), .fz (.lst (szs.map (fun s : Nat => D.int s))), .fz (.int z), .ow false (.lst (nm0.map .int)), .un, .un, .un] = some (.nx, rowS m z szs f3 nm0 [] .un .un) := by
    simp [rowS]
  have e4 : forS (srcK rngF [nameS 3]) (tgt1 6) (exprS (mutS 5 fAppend [mutS 4 fPop [callS m__law_take [true, false] [nameS 0, opS fLen [nameS 4]]]])) (rowS m z szs f3 nm0 [] .un .un) = some (.nx, rowS m z szs f4 nm fd t .un) := by
    have q : srcK rngF [nameS 3] (rowS m z szs f3 nm0 [] .un .un) = some (rngD 0 z, none, rowS m z szs f3 nm0 [] .un .un) := by
      refine srcK_ok (ds := [.int z]) (rs := [.val (.int z)]) ?_ rfl (rngF_nat z (by omega))
      simp [rowS]
    exact forS_ok q eL rfl
  have e0 : ∀ b : MS, seqS (asgS 2 (lstS [cS (.int 1), cS (.int 2), cS (.int 2), cS (.int 3), cS (.int 3), cS (.int 4), cS (.int 2), cS (.int 3), cS (.int 1), opS fAdd [cS (.int 5), callS m__law_take [true, false] [nameS 0, cS (.int 4)]], cS (.int 2), opS fMul [cS (.int 2), opS fInt [opS fGt [callS m__law_take [true, false] [nameS 0, cS (.int 6)], cS (.int 0)]]]]))
      (seqS (asgS 3 (opS fMin2 [nameS 1, callS m__law_pick [true, false] [nameS 0, nameS 2]])) b) [.ow true f, .fz (.int m), .un, .un, .un, .un, .un, .un] = b _ := fun b => (seq3 _ _ _ _).trans (seq_nx e1)
  have hrun : ∀ body : MS, body [.ow true f, .fz (.int m), .un, .un, .un, .un, .un, .un] = some (.rt (.val (rD r)), rowS m z szs f5 nm fd t .un) → run 2 8 body [.ow true f, .fz (.int m)] = some (.val (rD r), [.ow true f5, .un]) := fun body h => by
    have h2 : (.ow true f :: .fz (.int m) :: List.replicate (8 - 2) S.un) = [.ow true f, .fz (.int m), .un, .un, .un, .un, .un, .un] := rfl
    simp [h, rowS]
  refine hrun _ ?_
  rw [e0, seq_nx e2, seq_nx e3, seq_nx e4, eE]
end Al
end
section
namespace Al
open PySem
@[local simp] def u14_run_1 := @run.eq_1
@[local simp] def u14_retS_1 := @retS.eq_1
@[local simp] def u14_opS_1 := @opS.eq_1
@[local simp] def u14_keepS_1 := @keepS.eq_1
@[local simp] def u14_tupS_1 := @tupS.eq_1
@[local simp] def u14_lstS_1 := @lstS.eq_1
@[local simp] def u14_mkTup_1 := @mkTup.eq_1
@[local simp] def u14_mkLst_1 := @mkLst.eq_1
@[local simp] def u14_evs_1 := @evs.eq_1
@[local simp] def u14_evs_2 := @evs.eq_2
@[local simp] def u14_peeks_1 := @peeks.eq_1
@[local simp] def u14_peeks_2 := @peeks.eq_2
@[local simp] def u14_peek_1 := @peek.eq_1
@[local simp] def u14_peek_2 := @peek.eq_2
@[local simp] def u14_peek_3 := @peek.eq_3
@[local simp] def u14_forces_1 := @forces.eq_1
@[local simp] def u14_forces_2 := @forces.eq_2
@[local simp] def u14_force_1 := @force.eq_1
@[local simp] def u14_force_2 := @force.eq_2
@[local simp] def u14_force_3 := @force.eq_3
@[local simp] def u14_forget_1 := @forget.eq_1
@[local simp] def u14_forget_2 := @forget.eq_2
@[local simp] def u14_freezes_1 := @freezes.eq_1
@[local simp] def u14_freezes_2 := @freezes.eq_2
@[local simp] def u14_freezes_3 := @freezes.eq_3
@[local simp] def u14_nameS_1 := @nameS.eq_1
@[local simp] def u14_cS_1 := @cS.eq_1
@[local simp] def u14_seqS_1 := @seqS.eq_1
@[local simp] def u14_nilS_1 := @nilS.eq_1
@[local simp] def u14_ifS_1 := @ifS.eq_1
@[local simp] def u14_asgS_1 := @asgS.eq_1
@[local simp] def u14_putS_eq := @putS_eq
@[local simp] def u14_okPut_un := @okPut_un
@[local simp] def u14_okPut_fz := @okPut_fz
@[local simp] def u14_okPut_ow := @okPut_ow
@[local simp] def u14_exprS_1 := @exprS.eq_1
@[local simp] def u14_valT_1 := @valT.eq_1
@[local simp] def u14_notT_1 := @notT.eq_1
@[local simp] def u14_yesT_1 := @yesT.eq_1
@[local simp] def u14_andT_1 := @andT.eq_1
@[local simp] def u14_orT_1 := @orT.eq_1
@[local simp] def u14_argOk_1 := @argOk.eq_1
@[local simp] def u14_argOk_2 := @argOk.eq_2
@[local simp] def u14_argOk_3 := @argOk.eq_3
@[local simp] def u14_outs_1 := @outs.eq_1
@[local simp] def u14_outs_2 := @outs.eq_2
@[local simp] def u14_outs_3 := @outs.eq_3
@[local simp] def u14_outs_4 := @outs.eq_4
@[local simp] def u14_retR_1 := @retR.eq_1
@[local simp] def u14_retR_2 := @retR.eq_2
@[local simp] def u14_vi_1 := @vi.eq_1
@[local simp] def u14_vb_1 := @vb.eq_1
@[local simp high] def u15_mkLst_nil := @mkLst_nil
@[local simp high] def u15_mkTup_nil := @mkTup_nil
@[local simp] def u16_fAdd_1 := @fAdd.eq_1
@[local simp] def u16_fAdd_2 := @fAdd.eq_2
@[local simp] def u16_fAdd_3 := @fAdd.eq_3
@[local simp] def u16_fAdd_4 := @fAdd.eq_4
@[local simp] def u16_fAdd_5 := @fAdd.eq_5
@[local simp] def u16_fSub_1 := @fSub.eq_1
@[local simp] def u16_fSub_2 := @fSub.eq_2
@[local simp] def u16_fLt_1 := @fLt.eq_1
@[local simp] def u16_fLt_2 := @fLt.eq_2
@[local simp] def u16_fLe_1 := @fLe.eq_1
@[local simp] def u16_fLe_2 := @fLe.eq_2
@[local simp] def u16_fGt_1 := @fGt.eq_1
@[local simp] def u16_fGt_2 := @fGt.eq_2
@[local simp] def u16_fGe_1 := @fGe.eq_1
@[local simp] def u16_fGe_2 := @fGe.eq_2
@[local simp] def u16_fLen_1 := @fLen.eq_1
@[local simp] def u16_fLen_2 := @fLen.eq_2
@[local simp] def u16_fLen_3 := @fLen.eq_3
@[local simp] def u16_fLen_4 := @fLen.eq_4
@[local simp] def u16_fLen_5 := @fLen.eq_5
@[local simp] def u16_fMax2_1 := @fMax2.eq_1
@[local simp] def u16_fMax2_2 := @fMax2.eq_2
@[local simp] def u16_fMin2_1 := @fMin2.eq_1
@[local simp] def u16_fMin2_2 := @fMin2.eq_2
@[local simp] def u16_fTuple_1 := @fTuple.eq_1
@[local simp] def u16_fTuple_2 := @fTuple.eq_2
@[local simp] def u16_fTuple_3 := @fTuple.eq_3
@[local simp] def u16_fList_1 := @fList.eq_1
@[local simp] def u16_fList_2 := @fList.eq_2
@[local simp] def u16_fList_3 := @fList.eq_3
@[local simp] def u16_srcV_1 := @srcV.eq_1
@[local simp] def u16_seqOf_1 := @seqOf.eq_1
@[local simp] def u16_seqOf_2 := @seqOf.eq_2
@[local simp] def u16_seqOf_3 := @seqOf.eq_3
@[local simp] def u16_maskS_1 := @maskS.eq_1
@[local simp] def u16_maskS_2 := @maskS.eq_2
@[local simp] def u16_backS_1 := @backS.eq_1
@[local simp] def u16_backS_2 := @backS.eq_2
@[local simp] def u16_wipeS_1 := @wipeS.eq_1
@[local simp] def u16_wipeS_2 := @wipeS.eq_2
@[local simp] def u16_unwipeS_1 := @unwipeS.eq_1
@[local simp] def u16_unwipeS_2 := @unwipeS.eq_2
@[local simp] def u16_freeOf_1 := @freeOf.eq_1
@[local simp] def u16_freeOf_2 := @freeOf.eq_2
@[local simp] def u16_tgt1_1 := @tgt1.eq_1
@[local simp] def u16_stepL_1 := @stepL.eq_1
@[local simp] def u16_callP_1 := @callP.eq_1
@[local simp] def u16_ifxS_1 := @ifxS.eq_1
@[local simp] def u17_fIx_t0 := @fIx_t0
@[local simp] def u17_fIx_t1 := @fIx_t1
@[local simp] def u17_fIx_l0 := @fIx_l0
@[local simp] def u17_fIx_l1 := @fIx_l1
@[local simp] def u17_fIx_tupN := @fIx_tupN
@[local simp] def u17_fIx_lstN := @fIx_lstN
@[local simp] def u17_fIx_frzN := @fIx_frzN
@[local simp] def u17_fEq_int := @fEq_int
@[local simp] def u17_fEq_bl := @fEq_bl
@[local simp] def u17_fNe_int := @fNe_int
@[local simp] def u17_fNe_bl := @fNe_bl
@[local simp] def u17_fAbs_eq := @fAbs_eq
@[local simp] def u17_fMod_1 := @fMod.eq_1
@[local simp] def u17_fMod_2 := @fMod.eq_2
@[local simp] def u17_fDiv_1 := @fDiv.eq_1
@[local simp] def u17_fDiv_2 := @fDiv.eq_2
@[local simp] def u17_fMul_1 := @fMul.eq_1
@[local simp] def u17_fMul_2 := @fMul.eq_2
@[local simp] def u17_fMul_3 := @fMul.eq_3
@[local simp] def u17_fPow_1 := @fPow.eq_1
@[local simp] def u17_fPow_2 := @fPow.eq_2
@[local simp] def u18_callS_1 := @callS.eq_1
@[local simp] def u18_frzA_1 := @frzA.eq_1
@[local simp] def u18_frzA_2 := @frzA.eq_2
@[local simp] def u18_frzA_3 := @frzA.eq_3
@[local simp] def u18_frzA_4 := @frzA.eq_4
@[local simp] def u18_argA_1 := @argA.eq_1
@[local simp] def u18_argA_2 := @argA.eq_2
@[local simp] def u18_argA_3 := @argA.eq_3
@[local simp] def u18_argA_4 := @argA.eq_4
@[local simp] def u18_argA_5 := @argA.eq_5
@[local simp] def u18_ioIx_1 := @ioIx.eq_1
@[local simp] def u18_ioIx_2 := @ioIx.eq_2
@[local simp] def u18_ioIx_3 := @ioIx.eq_3
@[local simp] def u18_backA_1 := @backA.eq_1
@[local simp] def u18_backA_2 := @backA.eq_2
@[local simp] def u18_backA_3 := @backA.eq_3
@[local simp] def u18_backA_4 := @backA.eq_4
@[local simp] def u18_setS_1 := @setS.eq_1
@[local simp] def u18_owLst_1 := @owLst.eq_1
@[local simp] def u18_owLst_2 := @owLst.eq_2
@[local simp] def u18_isLst_1 := @isLst.eq_1
@[local simp] def u18_isLst_2 := @isLst.eq_2


abbrev clS (f : D) (most rows : Nat) (c d e g h i : S) : Rho := [.ow true f, .fz (.int most), .fz (.int rows), c, d, e, g, h, i]
theorem int_list {l : List D} {x : D} {m : Nat} (h : ∀ y ∈ l, ∃ n : Nat, y = .int n ∧ n ≤ m) (hx : x ∈ l) : ∃ n : Nat, x = .int n ∧ n ≤ m := h x hx
theorem claim_many {f : D} (hf : isFeed f) (most rows : Nat) (h2 : 2 ≤ most) (h100 : most ≤ 100) : ∃ (many : Nat) (f' : D), many ≤ most ∧ isFeed f' ∧
    asgS 3 (callS m__law_pick [true, false] [nameS 0, lstS [nameS 1, opS fSub [nameS 1, cS (.int 1)], nameS 1, opS fSub [nameS 1, cS (.int 2)], nameS 1, callS m__law_take [true, false] [nameS 0, opS fAdd [nameS 1, cS (.int 1)]]]]) (clS f most rows .un .un .un .un .un .un) =
      some (.nx, clS f' most rows (.fz (.int many)) .un .un .un .un .un) := by
  obtain ⟨r1, f1, h1, hf1, e1⟩ := take_ok hf ((most : Int) + 1) (by omega) (by omega)
  obtain ⟨x, f2, hx, hf2, e2⟩ := pick_ok hf1 [D.int most, .int ((most : Int) - 1), .int most, .int ((most : Int) - 2), .int most, .int r1] (by simp) (by simp)
  obtain ⟨n, rfl, hn⟩ : ∃ n : Nat, x = .int n ∧ n ≤ most := by
    have a1 : (most : Int) - 1 = ((most - 1 : Nat) : Int) := by omega
    have a2 : (most : Int) - 2 = ((most - 2 : Nat) : Int) := by omega
    rw [a1, a2] at hx
    simp only [List.mem_cons, List.not_mem_nil, or_false] at hx
    rcases hx with rfl | rfl | rfl | rfl | rfl | rfl
    · exact ⟨_, rfl, by omega⟩
    · exact ⟨_, rfl, by omega⟩
    · exact ⟨_, rfl, by omega⟩
    · exact ⟨_, rfl, by omega⟩
    · exact ⟨_, rfl, by omega⟩
    · exact ⟨_, rfl, by omega⟩
  refine ⟨n, f2, hn, hf2, ?_⟩
  simp [e1, e2, lim]
theorem claim_way {f : D} (hf : isFeed f) (most rows : Nat) (c : S) : ∃ (w : Nat) (f' : D), isFeed f' ∧
    asgS 4 (callS m__law_take [true, false] [nameS 0, cS (.int 4)]) (clS f most rows c .un .un .un .un .un) = some (.nx, clS f' most rows c (.fz (.int w)) .un .un .un .un) := by
  obtain ⟨r1, f1, h1, hf1, e1⟩ := take_ok hf 4 (by decide) (by decide)
  refine ⟨r1, f1, hf1, ?_⟩
  simp [e1]
theorem all_kD : ∀ {ds : List D}, (∀ d ∈ ds, ∃ b, d = kD b) → ∃ ks : List Bool, ds = ks.map kD ∧ ks.length = ds.length
  | [], _ => ⟨[], rfl, rfl⟩
  | d :: ds, h => by
    obtain ⟨b, rfl⟩ := h d List.mem_cons_self
    obtain ⟨ks, rfl, e⟩ := all_kD fun x hx => h x (List.mem_cons_of_mem _ hx)
    exact ⟨b :: ks, rfl, by simp⟩
theorem claim_kinds {f : D} (hf : isFeed f) (most rows many : Nat) (hm : many ≤ 100) (w : S) : ∃ (ks : List Bool) (f' : D), ks.length = many ∧ isFeed f' ∧
    asgS 5 (compS [8] (srcK rngF [nameS 3]) (tgt1 8) (yesT) (callS m__law_pick [true, false] [nameS 0, lstS [cS (.str "all"), cS (.str "some")]])) (clS f most rows (.fz (.int many)) w .un .un .un .un) =
      some (.nx, clS f' most rows (.fz (.int many)) w (.ow false (.lst (ks.map kD))) .un .un .un) := by
  have q : srcK rngF [nameS 3] (clS f most rows (.fz (.int many)) w .un .un .un .un) = some (rngD 0 many, none, clS f most rows (.fz (.int many)) w .un .un .un .un) := by
    refine srcK_ok (ds := [.int many]) (rs := [.val (.int many)]) ?_ rfl (rngF_nat many (by omega))
    simp
  obtain ⟨ds, ρ', eC, ⟨f', hf', rfl⟩, hl, hG⟩ := compL_inv (own := [8]) (tgt := tgt1 8) (cond := yesT) (elt := callS m__law_pick [true, false] [nameS 0, lstS [cS (.str "all"), cS (.str "some")]])
    (fun ρ => ∃ f, isFeed f ∧ ρ = clS f most rows (.fz (.int many)) w .un .un .un .un) (fun d => ∃ b, d = kD b) (rngD 0 many) _ ⟨f, hf, rfl⟩ (by
      rintro x hx ρ ⟨f, hf, rfl⟩
      obtain ⟨d, f1, hd, hf1, e1⟩ := pick_ok hf [.str "all", .str "some"] (by simp) (by simp)
      refine ⟨d, clS f1 most rows (.fz (.int many)) w .un .un .un .un, ?_, ⟨f1, hf1, rfl⟩, ?_⟩
      · simp [e1, lim]
      · simp only [List.mem_cons, List.not_mem_nil, or_false] at hd
        rcases hd with rfl | rfl
        · exact ⟨false, rfl⟩
        · exact ⟨true, rfl⟩)
  obtain ⟨ks, rfl, hk⟩ := all_kD hG
  have hr : (rngD 0 many).length = many := by simp [rngD]
  have e := compS_ok (own := [8]) (ρ3 := clS f' most rows (.fz (.int many)) w .un .un .un .un) q (by rw [hr]; omega) rfl eC rfl
  refine ⟨ks, f', by rw [hk, hl, hr], hf', ?_⟩
  rw [asgS_fr e rfl]
  rfl
theorem rngD_mem {n : Nat} {x : D} (h : x ∈ rngD 0 n) : ∃ k : Nat, x = .int k ∧ k < n := by
  unfold rngD at h
  obtain ⟨i, hi, rfl⟩ := List.mem_map.mp h
  exact ⟨i, by simp, List.mem_range.mp hi⟩
theorem claim_if {f : D} (most rows many w : Nat) (hm : many ≤ 100) (ks : List Bool) (hk : ks.length = many) : ∃ (ks' : List Bool), ks'.length = many ∧
    ifS (valT (opS fEq [nameS 4, cS (.int 0)])) (asgS 5 (compS [8] (srcK rngF [nameS 3]) (tgt1 8) (yesT) (opS fIx [lstS [cS (.str "some"), cS (.str "all")], opS fMod [nameS 8, cS (.int 2)]]))) (nilS) (clS f most rows (.fz (.int many)) (.fz (.int w)) (.ow false (.lst (ks.map kD))) .un .un .un) =
      some (.nx, clS f most rows (.fz (.int many)) (.fz (.int w)) (.ow false (.lst (ks'.map kD))) .un .un .un) := by
  by_cases c : w = 0
  · subst c
    have q : srcK rngF [nameS 3] (clS f most rows (.fz (.int many)) (.fz (.int 0)) (.ow false (.lst (ks.map kD))) .un .un .un) = some (rngD 0 many, none, clS f most rows (.fz (.int many)) (.fz (.int 0)) (.ow false (.lst (ks.map kD))) .un .un .un) := by
      refine srcK_ok (ds := [.int many]) (rs := [.val (.int many)]) ?_ rfl (rngF_nat many (by omega))
      simp
    obtain ⟨ds, ρ', eC, rfl, hl, hG⟩ := compL_inv (own := [8]) (tgt := tgt1 8) (cond := yesT) (elt := opS fIx [lstS [cS (.str "some"), cS (.str "all")], opS fMod [nameS 8, cS (.int 2)]])
      (fun ρ => ρ = clS f most rows (.fz (.int many)) (.fz (.int 0)) (.ow false (.lst (ks.map kD))) .un .un .un) (fun d => ∃ b, d = kD b) (rngD 0 many) _ rfl (by
        rintro x hx ρ rfl
        obtain ⟨k, rfl, hk⟩ := rngD_mem hx
        have : (k : Int) % 2 = 0 ∨ (k : Int) % 2 = 1 := by omega
        rcases this with e | e
        · exact ⟨kD true, clS f most rows (.fz (.int many)) (.fz (.int 0)) (.ow false (.lst (ks.map kD))) .un .un .un, by simp [e, lim, kD_some], rfl, true, rfl⟩
        · exact ⟨kD false, clS f most rows (.fz (.int many)) (.fz (.int 0)) (.ow false (.lst (ks.map kD))) .un .un .un, by simp [e, lim, kD_all], rfl, false, rfl⟩)
    obtain ⟨ks', rfl, hk'⟩ := all_kD hG
    have hr : (rngD 0 many).length = many := by simp [rngD]
    have e := compS_ok (own := [8]) (ρ3 := clS f most rows (.fz (.int many)) (.fz (.int 0)) (.ow false (.lst (ks.map kD))) .un .un .un) q (by rw [hr]; omega) rfl eC rfl
    refine ⟨ks', by rw [hk', hl, hr], ?_⟩
    have e2 := asgS_fr (i := 5) e rfl
    have t : valT (opS fEq [nameS 4, cS (.int 0)]) (clS f most rows (.fz (.int many)) (.fz (.int 0)) (.ow false (.lst (ks.map kD))) .un .un .un) = some (true, clS f most rows (.fz (.int many)) (.fz (.int 0)) (.ow false (.lst (ks.map kD))) .un .un .un) := by simp
    have e3 : ∀ a : MS, ifS (valT (opS fEq [nameS 4, cS (.int 0)])) a nilS (clS f most rows (.fz (.int many)) (.fz (.int 0)) (.ow false (.lst (ks.map kD))) .un .un .un) = a (clS f most rows (.fz (.int many)) (.fz (.int 0)) (.ow false (.lst (ks.map kD))) .un .un .un) := fun a => by
      simp only [ifS, t, Option.bind_some, if_true]
    exact (e3 _).trans e2
  · refine ⟨ks, hk, ?_⟩
    simp [c]
theorem claim_size {f : D} (hf : isFeed f) (most rows many : Nat) (hm : many ≤ 100) (hr : rows ≤ 100) (w k : S) : ∃ (size : Nat) (f' : D), size ≤ 1000 ∧ isFeed f' ∧
    asgS 6 (callS m__law_pick [true, false] [nameS 0, lstS [nameS 3, opS fAdd [nameS 3, opS fDiv [nameS 3, cS (.int 2)]], opS fMul [cS (.int 2), nameS 3], opS fAdd [opS fDiv [nameS 3, cS (.int 2)], cS (.int 1)], callS m__law_take [true, false] [nameS 0, opS fAdd [nameS 2, cS (.int 1)]], cS (.int 2)]]) (clS f most rows (.fz (.int many)) w k .un .un .un) =
      some (.nx, clS f' most rows (.fz (.int many)) w k (.fz (.int size)) .un .un) := by
  obtain ⟨r1, f1, h1, hf1, e1⟩ := take_ok hf ((rows : Int) + 1) (by omega) (by omega)
  obtain ⟨x, f2, hx, hf2, e2⟩ := pick_ok hf1 [D.int many, .int ((many : Int) + (many : Int) / 2), .int (2 * (many : Int)), .int ((many : Int) / 2 + 1), .int r1, .int 2] (by simp) (by simp)
  obtain ⟨n, rfl, hn⟩ : ∃ n : Nat, x = .int n ∧ n ≤ 1000 := by
    have a1 : (many : Int) + (many : Int) / 2 = ((many + many / 2 : Nat) : Int) := by omega
    have a2 : 2 * (many : Int) = ((2 * many : Nat) : Int) := by omega
    have a3 : (many : Int) / 2 + 1 = ((many / 2 + 1 : Nat) : Int) := by omega
    rw [a1, a2, a3] at hx
    simp only [List.mem_cons, List.not_mem_nil, or_false] at hx
    rcases hx with rfl | rfl | rfl | rfl | rfl | rfl
    · exact ⟨_, rfl, by omega⟩
    · exact ⟨_, rfl, by omega⟩
    · exact ⟨_, rfl, by omega⟩
    · exact ⟨_, rfl, by omega⟩
    · exact ⟨_, rfl, by omega⟩
    · exact ⟨2, rfl, by omega⟩
  refine ⟨n, f2, hn, hf2, ?_⟩
  have b2 : b64 2 = true := by decide
  simp [e1, e2, lim, b2]
def RowOk (m : Nat) (r : List Int) : Prop := RowIn m r ∧ Inc r ∧ r.length ≤ m
theorem all_rD {m : Nat} : ∀ {ds : List D}, (∀ d ∈ ds, ∃ r, d = rD r ∧ RowOk m r) → ∃ rs : List (List Int), ds = rs.map rD ∧ rs.length = ds.length ∧ ∀ r ∈ rs, RowOk m r
  | [], _ => ⟨[], rfl, rfl, fun r h => by cases h⟩
  | d :: ds, h => by
    obtain ⟨b, rfl, hb⟩ := h d List.mem_cons_self
    obtain ⟨ks, rfl, e, k⟩ := all_rD fun x hx => h x (List.mem_cons_of_mem _ hx)
    refine ⟨b :: ks, rfl, by simp, fun r hr => ?_⟩
    rcases List.mem_cons.mp hr with rfl | hr
    · exact hb
    · exact k r hr
theorem claim_found {f : D} (hf : isFeed f) (most rows many size : Nat) (hm : many ≤ 100) (hr : rows ≤ 100) (w k : S) : ∃ (rs : List (List Int)) (f' : D), rs.length ≤ rows ∧ (∀ r ∈ rs, RowOk many r) ∧ isFeed f' ∧
    asgS 7 (compS [8] (srcK rngF [opS fMin2 [nameS 2, nameS 6]]) (tgt1 8) (yesT) (callS m__law_row [true, false] [nameS 0, nameS 3])) (clS f most rows (.fz (.int many)) w k (.fz (.int size)) .un .un) =
      some (.nx, clS f' most rows (.fz (.int many)) w k (.fz (.int size)) (.ow false (.lst (rs.map rD))) .un) := by
  obtain ⟨z, hz, hzr⟩ : ∃ z : Nat, (if size < rows then (size : Int) else rows) = z ∧ z ≤ rows := by
    split
    · exact ⟨size, rfl, by omega⟩
    · exact ⟨rows, rfl, by omega⟩
  have q : srcK rngF [opS fMin2 [nameS 2, nameS 6]] (clS f most rows (.fz (.int many)) w k (.fz (.int size)) .un .un) = some (rngD 0 z, none, clS f most rows (.fz (.int many)) w k (.fz (.int size)) .un .un) := by
    refine srcK_ok (ds := [.int z]) (rs := [.val (.int z)]) ?_ rfl (rngF_nat z (by omega))
    simp [hz]
  obtain ⟨ds, ρ', eC, ⟨f', hf', rfl⟩, hl, hG⟩ := compL_inv (own := [8]) (tgt := tgt1 8) (cond := yesT) (elt := callS m__law_row [true, false] [nameS 0, nameS 3])
    (fun ρ => ∃ f, isFeed f ∧ ρ = clS f most rows (.fz (.int many)) w k (.fz (.int size)) .un .un) (fun d => ∃ r, d = rD r ∧ RowOk many r) (rngD 0 z) _ ⟨f, hf, rfl⟩ (by
      rintro x hx ρ ⟨f, hf, rfl⟩
      obtain ⟨r, f1, h1, h2, h3, hf1, e1⟩ := row_ok hf many (by omega)
      refine ⟨rD r, clS f1 most rows (.fz (.int many)) w k (.fz (.int size)) .un .un, ?_, ⟨f1, hf1, rfl⟩, r, rfl, h1, h2, h3⟩
      simp [e1])
  obtain ⟨rs, rfl, hk, hR⟩ := all_rD hG
  have hrl : (rngD 0 z).length = z := by simp [rngD]
  have e := compS_ok (own := [8]) (ρ3 := clS f' most rows (.fz (.int many)) w k (.fz (.int size)) .un .un) q (by rw [hrl]; omega) rfl eC rfl
  refine ⟨rs, f', by rw [hk, hl, hrl]; exact hzr, hR, hf', ?_⟩
  rw [asgS_fr e rfl]
  rfl
theorem plain_rD (r : List Int) : D.flatN 59 (rD r) = true := by
  simp [D.flatN, D.flat0]
theorem plain_rDs (rs : List (List Int)) : plain (.lst (rs.map rD)) = true := by
  show (rs.map rD).all (D.flatN 59) = true
  rw [List.all_eq_true]
  intro x hx
  obtain ⟨r, _, rfl⟩ := List.mem_map.mp hx
  exact plain_rD r
theorem fNe_nil (rs : List (List Int)) : fNe [.lst (rs.map rD), .lst []] = some (.val (.bl (!rs.isEmpty))) := by
  have : plain (.lst []) = true := rfl
  simp only [fNe, plain_rDs, this]
  cases rs <;> simp [D.eqv, D.eqvs, vb]
theorem claim_more {f : D} (hf : isFeed f) (most rows many : Nat) (rs : List (List Int)) (hl : rs.length ≤ 100) (hR : ∀ r ∈ rs, RowOk many r) (a b c d : S) : ∃ (rs' : List (List Int)) (f' : D), rs'.length ≤ 101 ∧ (∀ r ∈ rs', RowOk many r) ∧ isFeed f' ∧
    ifS (andT (valT (opS fNe [nameS 7, lstS []])) (valT (opS fEq [callS m__law_take [true, false] [nameS 0, cS (.int 6)], cS (.int 0)]))) (exprS (mutS 7 fAppend [callS m__law_pick [true, true] [nameS 0, nameS 7]])) (nilS) (clS f most rows a b c d (.ow false (.lst (rs.map rD))) .un) =
      some (.nx, clS f' most rows a b c d (.ow false (.lst (rs'.map rD))) .un) := by
  obtain ⟨r1, f1, h1, hf1, e1⟩ := take_ok hf 6 (by decide) (by decide)
  cases rs with
  | nil =>
    have e := fNe_nil []
    refine ⟨[], f, by simp, hR, hf, ?_⟩
    simp only [List.map_nil] at e
    simp [e]
  | cons r rs =>
    have e := fNe_nil (r :: rs)
    simp only [List.map_cons] at e
    by_cases z : r1 = 0
    · subst z
      obtain ⟨x, f2, hx, hf2, e2⟩ := pick_ok2 hf1 ((r :: rs).map rD) (by simp) (by simp at hl ⊢; omega)
      obtain ⟨y, hy, rfl⟩ := List.mem_map.mp hx
      refine ⟨r :: rs ++ [y], f2, by simp at hl ⊢; omega, fun q hq => ?_, hf2, ?_⟩
      · rw [List.mem_append] at hq
        rcases hq with hq | hq
        · exact hR q hq
        · simp at hq
          subst hq
          exact hR _ hy
      · have l1 : rs.length + 1 < 16777216 := by simp at hl; omega
        simp only [List.map_cons] at e2
        simp [e, e1, mutS, e2, fAppend, lim, l1]
    · refine ⟨r :: rs, f1, by simp at hl ⊢; omega, hR, hf1, ?_⟩
      simp [e, e1, z]
end Al
end
section
namespace Al
open PySem
@[local simp] def u19_run_1 := @run.eq_1
@[local simp] def u19_retS_1 := @retS.eq_1
@[local simp] def u19_opS_1 := @opS.eq_1
@[local simp] def u19_keepS_1 := @keepS.eq_1
@[local simp] def u19_tupS_1 := @tupS.eq_1
@[local simp] def u19_lstS_1 := @lstS.eq_1
@[local simp] def u19_mkTup_1 := @mkTup.eq_1
@[local simp] def u19_mkLst_1 := @mkLst.eq_1
@[local simp] def u19_evs_1 := @evs.eq_1
@[local simp] def u19_evs_2 := @evs.eq_2
@[local simp] def u19_peeks_1 := @peeks.eq_1
@[local simp] def u19_peeks_2 := @peeks.eq_2
@[local simp] def u19_peek_1 := @peek.eq_1
@[local simp] def u19_peek_2 := @peek.eq_2
@[local simp] def u19_peek_3 := @peek.eq_3
@[local simp] def u19_forces_1 := @forces.eq_1
@[local simp] def u19_forces_2 := @forces.eq_2
@[local simp] def u19_force_1 := @force.eq_1
@[local simp] def u19_force_2 := @force.eq_2
@[local simp] def u19_force_3 := @force.eq_3
@[local simp] def u19_forget_1 := @forget.eq_1
@[local simp] def u19_forget_2 := @forget.eq_2
@[local simp] def u19_freezes_1 := @freezes.eq_1
@[local simp] def u19_freezes_2 := @freezes.eq_2
@[local simp] def u19_freezes_3 := @freezes.eq_3
@[local simp] def u19_nameS_1 := @nameS.eq_1
@[local simp] def u19_cS_1 := @cS.eq_1
@[local simp] def u19_seqS_1 := @seqS.eq_1
@[local simp] def u19_nilS_1 := @nilS.eq_1
@[local simp] def u19_ifS_1 := @ifS.eq_1
@[local simp] def u19_asgS_1 := @asgS.eq_1
@[local simp] def u19_putS_eq := @putS_eq
@[local simp] def u19_okPut_un := @okPut_un
@[local simp] def u19_okPut_fz := @okPut_fz
@[local simp] def u19_okPut_ow := @okPut_ow
@[local simp] def u19_exprS_1 := @exprS.eq_1
@[local simp] def u19_valT_1 := @valT.eq_1
@[local simp] def u19_notT_1 := @notT.eq_1
@[local simp] def u19_yesT_1 := @yesT.eq_1
@[local simp] def u19_andT_1 := @andT.eq_1
@[local simp] def u19_orT_1 := @orT.eq_1
@[local simp] def u19_argOk_1 := @argOk.eq_1
@[local simp] def u19_argOk_2 := @argOk.eq_2
@[local simp] def u19_argOk_3 := @argOk.eq_3
@[local simp] def u19_outs_1 := @outs.eq_1
@[local simp] def u19_outs_2 := @outs.eq_2
@[local simp] def u19_outs_3 := @outs.eq_3
@[local simp] def u19_outs_4 := @outs.eq_4
@[local simp] def u19_retR_1 := @retR.eq_1
@[local simp] def u19_retR_2 := @retR.eq_2
@[local simp] def u19_vi_1 := @vi.eq_1
@[local simp] def u19_vb_1 := @vb.eq_1
@[local simp high] def u20_mkLst_nil := @mkLst_nil
@[local simp high] def u20_mkTup_nil := @mkTup_nil
@[local simp] def u21_fAdd_1 := @fAdd.eq_1
@[local simp] def u21_fAdd_2 := @fAdd.eq_2
@[local simp] def u21_fAdd_3 := @fAdd.eq_3
@[local simp] def u21_fAdd_4 := @fAdd.eq_4
@[local simp] def u21_fAdd_5 := @fAdd.eq_5
@[local simp] def u21_fSub_1 := @fSub.eq_1
@[local simp] def u21_fSub_2 := @fSub.eq_2
@[local simp] def u21_fLt_1 := @fLt.eq_1
@[local simp] def u21_fLt_2 := @fLt.eq_2
@[local simp] def u21_fLe_1 := @fLe.eq_1
@[local simp] def u21_fLe_2 := @fLe.eq_2
@[local simp] def u21_fGt_1 := @fGt.eq_1
@[local simp] def u21_fGt_2 := @fGt.eq_2
@[local simp] def u21_fGe_1 := @fGe.eq_1
@[local simp] def u21_fGe_2 := @fGe.eq_2
@[local simp] def u21_fLen_1 := @fLen.eq_1
@[local simp] def u21_fLen_2 := @fLen.eq_2
@[local simp] def u21_fLen_3 := @fLen.eq_3
@[local simp] def u21_fLen_4 := @fLen.eq_4
@[local simp] def u21_fLen_5 := @fLen.eq_5
@[local simp] def u21_fMax2_1 := @fMax2.eq_1
@[local simp] def u21_fMax2_2 := @fMax2.eq_2
@[local simp] def u21_fMin2_1 := @fMin2.eq_1
@[local simp] def u21_fMin2_2 := @fMin2.eq_2
@[local simp] def u21_fTuple_1 := @fTuple.eq_1
@[local simp] def u21_fTuple_2 := @fTuple.eq_2
@[local simp] def u21_fTuple_3 := @fTuple.eq_3
@[local simp] def u21_fList_1 := @fList.eq_1
@[local simp] def u21_fList_2 := @fList.eq_2
@[local simp] def u21_fList_3 := @fList.eq_3
@[local simp] def u21_srcV_1 := @srcV.eq_1
@[local simp] def u21_seqOf_1 := @seqOf.eq_1
@[local simp] def u21_seqOf_2 := @seqOf.eq_2
@[local simp] def u21_seqOf_3 := @seqOf.eq_3
@[local simp] def u21_maskS_1 := @maskS.eq_1
@[local simp] def u21_maskS_2 := @maskS.eq_2
@[local simp] def u21_backS_1 := @backS.eq_1
@[local simp] def u21_backS_2 := @backS.eq_2
@[local simp] def u21_wipeS_1 := @wipeS.eq_1
@[local simp] def u21_wipeS_2 := @wipeS.eq_2
@[local simp] def u21_unwipeS_1 := @unwipeS.eq_1
@[local simp] def u21_unwipeS_2 := @unwipeS.eq_2
@[local simp] def u21_freeOf_1 := @freeOf.eq_1
@[local simp] def u21_freeOf_2 := @freeOf.eq_2
@[local simp] def u21_tgt1_1 := @tgt1.eq_1
@[local simp] def u21_stepL_1 := @stepL.eq_1
@[local simp] def u21_callP_1 := @callP.eq_1
@[local simp] def u21_ifxS_1 := @ifxS.eq_1
@[local simp] def u22_fIx_t0 := @fIx_t0
@[local simp] def u22_fIx_t1 := @fIx_t1
@[local simp] def u22_fIx_l0 := @fIx_l0
@[local simp] def u22_fIx_l1 := @fIx_l1
@[local simp] def u22_fIx_tupN := @fIx_tupN
@[local simp] def u22_fIx_lstN := @fIx_lstN
@[local simp] def u22_fIx_frzN := @fIx_frzN
@[local simp] def u22_fEq_int := @fEq_int
@[local simp] def u22_fEq_bl := @fEq_bl
@[local simp] def u22_fNe_int := @fNe_int
@[local simp] def u22_fNe_bl := @fNe_bl
@[local simp] def u22_fAbs_eq := @fAbs_eq
@[local simp] def u22_fMod_1 := @fMod.eq_1
@[local simp] def u22_fMod_2 := @fMod.eq_2
@[local simp] def u22_fDiv_1 := @fDiv.eq_1
@[local simp] def u22_fDiv_2 := @fDiv.eq_2
@[local simp] def u22_fMul_1 := @fMul.eq_1
@[local simp] def u22_fMul_2 := @fMul.eq_2
@[local simp] def u22_fMul_3 := @fMul.eq_3
@[local simp] def u22_fPow_1 := @fPow.eq_1
@[local simp] def u22_fPow_2 := @fPow.eq_2
@[local simp] def u23_callS_1 := @callS.eq_1
@[local simp] def u23_frzA_1 := @frzA.eq_1
@[local simp] def u23_frzA_2 := @frzA.eq_2
@[local simp] def u23_frzA_3 := @frzA.eq_3
@[local simp] def u23_frzA_4 := @frzA.eq_4
@[local simp] def u23_argA_1 := @argA.eq_1
@[local simp] def u23_argA_2 := @argA.eq_2
@[local simp] def u23_argA_3 := @argA.eq_3
@[local simp] def u23_argA_4 := @argA.eq_4
@[local simp] def u23_argA_5 := @argA.eq_5
@[local simp] def u23_ioIx_1 := @ioIx.eq_1
@[local simp] def u23_ioIx_2 := @ioIx.eq_2
@[local simp] def u23_ioIx_3 := @ioIx.eq_3
@[local simp] def u23_backA_1 := @backA.eq_1
@[local simp] def u23_backA_2 := @backA.eq_2
@[local simp] def u23_backA_3 := @backA.eq_3
@[local simp] def u23_backA_4 := @backA.eq_4
@[local simp] def u23_setS_1 := @setS.eq_1
@[local simp] def u23_owLst_1 := @owLst.eq_1
@[local simp] def u23_owLst_2 := @owLst.eq_2
@[local simp] def u23_isLst_1 := @isLst.eq_1
@[local simp] def u23_isLst_2 := @isLst.eq_2

theorem fSlHi_lst (l : List D) (k : Nat) : fSlHi [.lst l, .int (k : Nat)] = some (.fr (.lst (l.take k))) := by
  simp only [fSlHi, sliceF, cutL, loOf, hiOf, clampI]
  have : ¬ ((k : Int) < 0) := by omega
  simp only [this, if_false, Int.toNat_natCast, List.drop_zero]
  congr 3
  by_cases h : k ≤ l.length
  · rw [Nat.min_eq_left h]
  · rw [Nat.min_eq_right (by omega), List.take_of_length_le (Nat.le_refl _), List.take_of_length_le (by omega)]
structure ClOk (most rows : Nat) (ks : List Bool) (rs : List (List Int)) : Prop where
  kl : ks.length ≤ most
  rl : rs.length ≤ rows
  ro : ∀ r ∈ rs, RowOk ks.length r
theorem claim_ret (f : D) (most rows : Nat) (a b d : S) (ks : List Bool) (rs : List (List Int)) :
    retS (tupS [opS fTuple [nameS 5], opS fTuple [opS fSlHi [nameS 7, nameS 2]]]) (clS f most rows a b (.ow false (.lst (ks.map kD))) d (.ow false (.lst (rs.map rD))) .un) =
      some (.rt (.val (cD ks (rs.take rows))), clS f most rows a b (.ow false (.lst (ks.map kD))) d (.ow false (.lst (rs.map rD))) .un) := by
  simp [fSlHi_lst, lim]
theorem claim_ok {f : D} (hf : isFeed f) (most rows : Nat) (h2 : 2 ≤ most) (h100 : most ≤ 100) (hr : rows ≤ 100) : ∃ (ks : List Bool) (rs : List (List Int)) (f' : D), ClOk most rows ks rs ∧ isFeed f' ∧
    m__law_claim [.ow true f, .fz (.int most), .fz (.int rows)] = some (.val (cD ks rs), [.ow true f', .un, .un]) := by
  obtain ⟨many, f1, hm, hf1, e1⟩ := claim_many hf most rows h2 h100
  obtain ⟨w, f2, hf2, e2⟩ := claim_way hf1 most rows (.fz (.int many))
  obtain ⟨ks0, f3, hk0, hf3, e3⟩ := claim_kinds hf2 most rows many (by omega) (.fz (.int w))
  obtain ⟨ks, hk, e4⟩ := claim_if (f := f3) most rows many w (by omega) ks0 hk0
  obtain ⟨size, f5, hs, hf5, e5⟩ := claim_size hf3 most rows many (by omega) hr (.fz (.int w)) (.ow false (.lst (ks.map kD)))
  obtain ⟨rs0, f6, hl0, hR0, hf6, e6⟩ := claim_found hf5 most rows many size (by omega) hr (.fz (.int w)) (.ow false (.lst (ks.map kD)))
  obtain ⟨rs, f7, hl, hR, hf7, e7⟩ := claim_more hf6 most rows many rs0 (by omega) hR0 (.fz (.int many)) (.fz (.int w)) (.ow false (.lst (ks.map kD))) (.fz (.int size))
  have e8 := claim_ret f7 most rows (.fz (.int many)) (.fz (.int w)) (.fz (.int size)) ks rs
  refine ⟨ks, rs.take rows, f7, ⟨by omega, by rw [List.length_take]; omega, fun r hr => by rw [hk]; exact hR r (List.mem_of_mem_take hr)⟩, hf7, ?_⟩
  have hrun : ∀ body : MS, body (clS f most rows .un .un .un .un .un .un) = some (.rt (.val (cD ks (rs.take rows))), clS f7 most rows (.fz (.int many)) (.fz (.int w)) (.ow false (.lst (ks.map kD))) (.fz (.int size)) (.ow false (.lst (rs.map rD))) .un) → run 3 9 body [.ow true f, .fz (.int most), .fz (.int rows)] = some (.val (cD ks (rs.take rows)), [.ow true f7, .un, .un]) := fun body h => by
    simp [h]
  refine hrun _ ?_
  rw [seq_nx e1, seq_nx e2, seq_nx e3, seq_nx e4, seq_nx e5, seq_nx e6, seq_nx e7, e8]
end Al
end
section
namespace Al
open PySem
/-! ### the mathematics of plays and rests -/
theorem near_abs {m : Nat} {l : Int} (h : m < l.natAbs) : (near m l).natAbs = l.natAbs - m := by
  unfold near; split <;> omega
theorem near_pos {m : Nat} {l : Int} (h : m < l.natAbs) : (0 < near m l) ↔ 0 < l := by
  unfold near; split <;> omega
theorem right_app_open {l : Int} {a b : List Bool} (h : a.length < l.natAbs) : isRight l (a ++ b) = isRight (near a.length l) b := by
  unfold isRight
  rw [near_abs h, List.getElem?_append_right (by omega)]
  have e : l.natAbs - 1 - a.length = l.natAbs - a.length - 1 := by omega
  rw [e]
  have e2 : decide (0 < l) = decide (0 < near a.length l) := by rw [decide_eq_decide]; exact (near_pos h).symm
  rw [e2]
theorem right_app_shut {l : Int} {a b : List Bool} (h1 : 1 ≤ l.natAbs) (h : ¬ a.length < l.natAbs) : isRight l (a ++ b) = isRight l a := by
  unfold isRight
  rw [List.getElem?_append_left (by omega)]
theorem open_app_open {l : Int} {a b : List Bool} (h : a.length < l.natAbs) : isOpen l (a ++ b) = isOpen (near a.length l) b := by
  unfold isOpen
  rw [near_abs h, List.length_append, decide_eq_decide]
  omega
theorem open_app_shut {l : Int} {a b : List Bool} (h : ¬ a.length < l.natAbs) : isOpen l (a ++ b) = false := by
  unfold isOpen
  rw [decide_eq_false_iff_not, List.length_append]
  omega
theorem right_open {l : Int} {a : List Bool} (h : a.length < l.natAbs) : isRight l a = false := by
  unfold isRight
  rw [List.getElem?_eq_none (by omega)]
theorem isOpen_iff {l : Int} {a : List Bool} : isOpen l a = true ↔ a.length < l.natAbs := by simp [isOpen]
theorem kept_app (r : List Int) (a b : List Bool) (h : Row1 r) : kept r (a ++ b) = (kept r a || kept (leftR a r) b) := by
  unfold kept leftR
  induction r with
  | nil => rfl
  | cons l r ih =>
    have ih := ih fun x hx => h x (List.mem_cons_of_mem _ hx)
    have h1 := h l List.mem_cons_self
    by_cases c : a.length < l.natAbs
    · have o : isOpen l a = true := isOpen_iff.mpr c
      simp only [List.any_cons, List.filter_cons, o, if_true, List.map_cons, ih, right_app_open c, right_open c, Bool.false_or]
      cases isRight (near a.length l) b <;> simp
    · have o : isOpen l a = false := by simpa [isOpen] using c
      simp only [List.any_cons, List.filter_cons, o, ih, right_app_shut h1 c, Bool.or_assoc]
      simp
theorem lost_app (r : List Int) (a b : List Bool) (h : Row1 r) : lost r (a ++ b) = (!kept r a && lost (leftR a r) b) := by
  unfold lost kept leftR
  rw [← Bool.not_or]
  congr 1
  induction r with
  | nil => rfl
  | cons l r ih =>
    have ih := ih fun x hx => h x (List.mem_cons_of_mem _ hx)
    have h1 := h l List.mem_cons_self
    by_cases c : a.length < l.natAbs
    · have o : isOpen l a = true := isOpen_iff.mpr c
      simp only [List.any_cons, List.filter_cons, o, if_true, List.map_cons, ih, right_app_open c, right_open c, open_app_open c, Bool.false_or]
      cases (isRight (near a.length l) b || isOpen (near a.length l) b) <;> simp
    · have o : isOpen l a = false := by simpa [isOpen] using c
      simp only [List.any_cons, List.filter_cons, o, ih, right_app_shut h1 c, open_app_shut c, Bool.or_assoc, Bool.or_false]
      simp
theorem leftR_app (r : List Int) (a b : List Bool) : leftR (a ++ b) r = leftR b (leftR a r) := by
  unfold leftR
  induction r with
  | nil => rfl
  | cons l r ih =>
    by_cases c : a.length < l.natAbs
    · have o : isOpen l a = true := isOpen_iff.mpr c
      simp only [List.filter_cons, o, if_true, List.map_cons, open_app_open c]
      by_cases d : isOpen (near a.length l) b = true
      · simp only [d, if_true, List.map_cons, ih]
        congr 1
        have := isOpen_iff.mp d
        rw [near_abs c] at this
        unfold near
        rw [List.length_append]
        split <;> split <;> omega
      · have d' : isOpen (near a.length l) b = false := by simpa using d
        simp only [d', Bool.false_eq_true, if_false]
        exact ih
    · have o : isOpen l a = false := by simpa [isOpen] using c
      simp only [List.filter_cons, o, open_app_shut c]
      simpa using ih
theorem row1_left {r : List Int} {a : List Bool} : Row1 (leftR a r) := by
  intro l hl
  unfold leftR at hl
  obtain ⟨x, hx, rfl⟩ := List.mem_map.mp hl
  have := isOpen_iff.mp (List.mem_filter.mp hx).2
  rw [near_abs this]
  omega
theorem left_app (rs : List (List Int)) (a b : List Bool) (h : ∀ r ∈ rs, Row1 r) : leftRs rs (a ++ b) = leftRs (leftRs rs a) b := by
  unfold leftRs
  induction rs with
  | nil => rfl
  | cons r rs ih =>
    have ih := ih fun x hx => h x (List.mem_cons_of_mem _ hx)
    have k := kept_app r a b (h r List.mem_cons_self)
    cases c : kept r a with
    | true =>
      rw [c, Bool.true_or] at k
      simp only [List.filter_cons, k, c]
      simpa using ih
    | false =>
      rw [c, Bool.false_or] at k
      cases d : kept (leftR a r) b with
      | true =>
        simp only [List.filter_cons, k, c, d]
        simpa [d] using ih
      | false =>
        simp only [List.filter_cons, k, c, d]
        simp only [Bool.not_false, if_true, List.map_cons, List.filter_cons, d, ih, leftR_app]
theorem any_lost_app (rs : List (List Int)) (a b : List Bool) (h : ∀ r ∈ rs, Row1 r) : (rs.any fun r => lost r (a ++ b)) = ((leftRs rs a).any fun r => lost r b) := by
  unfold leftRs
  induction rs with
  | nil => rfl
  | cons r rs ih =>
    have ih := ih fun x hx => h x (List.mem_cons_of_mem _ hx)
    rw [List.any_cons, lost_app r a b (h r List.mem_cons_self), ih]
    cases c : kept r a <;> simp [List.filter_cons, c]
theorem all_kept_app (rs : List (List Int)) (a b : List Bool) (h : ∀ r ∈ rs, Row1 r) : (rs.all fun r => kept r (a ++ b)) = ((leftRs rs a).all fun r => kept r b) := by
  unfold leftRs
  induction rs with
  | nil => rfl
  | cons r rs ih =>
    have ih := ih fun x hx => h x (List.mem_cons_of_mem _ hx)
    rw [List.all_cons, kept_app r a b (h r List.mem_cons_self), ih]
    cases c : kept r a <;> simp [List.filter_cons, c]
theorem win_app (ks : List Bool) (rs : List (List Int)) (a : List Bool) (h : ∀ r ∈ rs, Row1 r) : ∀ (n : Nat) (b : List Bool), winN (ks.drop a.length) (leftRs rs a) n b = winN ks rs n (a ++ b)
  | 0, _ => rfl
  | n + 1, b => by
    have e : (ks.drop a.length).getD b.length false = ks.getD (a ++ b).length false := by
      simp [List.getD, List.getElem?_drop]
    rw [winN, winN, any_lost_app rs a b h, all_kept_app rs a b h, win_app ks rs a h n, win_app ks rs a h n, e, List.append_assoc, List.append_assoc]
theorem good_app (ks : List Bool) (rs : List (List Int)) (a : List Bool) (n : Nat) (b : List Bool) (h : ∀ r ∈ rs, Row1 r) (ha : a.length ≤ ks.length) : goodN (ks.drop a.length) (leftRs rs a) n b = goodN ks rs n (a ++ b) := by
  have e : (ks.drop a.length).getD b.length false = ks.getD (a ++ b).length false := by
    simp [List.getD, List.getElem?_drop]
  unfold goodN
  have c : (b.length = (ks.drop a.length).length) ↔ ((a ++ b).length = ks.length) := by
    rw [List.length_drop, List.length_append]; omega
  by_cases d : b.length = (ks.drop a.length).length
  · rw [if_pos d, if_pos (c.mp d)]
  · rw [if_neg d, if_neg fun z => d (c.mpr z)]
    congr 1
    funext t
    rw [win_app ks rs a h, e, List.append_assoc]
theorem rowok_left {m : Nat} {r : List Int} {a : List Bool} (h : RowOk m r) (ha : a.length ≤ m) : RowIn (m - a.length) (leftR a r) ∧ Inc (leftR a r) ∧ (leftR a r).length ≤ r.length := by
  obtain ⟨h1, h2, h3⟩ := h
  refine ⟨fun l hl => ?_, ?_, ?_⟩
  · unfold leftR at hl
    obtain ⟨x, hx, rfl⟩ := List.mem_map.mp hl
    obtain ⟨hx, o⟩ := List.mem_filter.mp hx
    have o := isOpen_iff.mp o
    have := h1 x hx
    rw [near_abs o]
    omega
  · unfold Inc leftR
    rw [List.pairwise_map]
    refine List.Pairwise.imp_of_mem ?_ (h2.filter _)
    intro x y hx hy hxy
    have ox := isOpen_iff.mp (List.mem_filter.mp hx).2
    have oy := isOpen_iff.mp (List.mem_filter.mp hy).2
    rw [near_abs ox, near_abs oy]
    omega
  · unfold leftR
    rw [List.length_map]
    exact List.length_filter_le _ _
theorem left_len (rs : List (List Int)) (p : List Bool) : (leftRs rs p).length + (rs.filter fun r => kept r p).length = rs.length := by
  unfold leftRs
  induction rs with
  | nil => rfl
  | cons r rs ih => cases c : kept r p <;> simp [List.filter_cons, c] at ih ⊢ <;> omega
theorem lost_iff (r : List Int) (p : List Bool) : lost r p = (!kept r p && (leftR p r).isEmpty) := by
  unfold lost kept leftR
  induction r with
  | nil => rfl
  | cons l r ih =>
    cases c : isRight l p <;> cases d : isOpen l p <;> simp [List.filter_cons, c, d] at ih ⊢
    exact ih
theorem lost_count (rs : List (List Int)) (p : List Bool) : (leftRs rs p).countP (fun r => r.isEmpty) = (rs.filter fun r => lost r p).length := by
  unfold leftRs
  induction rs with
  | nil => rfl
  | cons r rs ih =>
    have e := lost_iff r p
    cases c : kept r p <;> cases d : (leftR p r).isEmpty <;> rw [c, d] at e <;> simp [List.filter_cons, c, d, e, List.countP_cons] at ih ⊢ <;> omega
end Al
end
section
namespace Al
open PySem
@[local simp] def u24_run_1 := @run.eq_1
@[local simp] def u24_retS_1 := @retS.eq_1
@[local simp] def u24_opS_1 := @opS.eq_1
@[local simp] def u24_keepS_1 := @keepS.eq_1
@[local simp] def u24_tupS_1 := @tupS.eq_1
@[local simp] def u24_lstS_1 := @lstS.eq_1
@[local simp] def u24_mkTup_1 := @mkTup.eq_1
@[local simp] def u24_mkLst_1 := @mkLst.eq_1
@[local simp] def u24_evs_1 := @evs.eq_1
@[local simp] def u24_evs_2 := @evs.eq_2
@[local simp] def u24_peeks_1 := @peeks.eq_1
@[local simp] def u24_peeks_2 := @peeks.eq_2
@[local simp] def u24_peek_1 := @peek.eq_1
@[local simp] def u24_peek_2 := @peek.eq_2
@[local simp] def u24_peek_3 := @peek.eq_3
@[local simp] def u24_forces_1 := @forces.eq_1
@[local simp] def u24_forces_2 := @forces.eq_2
@[local simp] def u24_force_1 := @force.eq_1
@[local simp] def u24_force_2 := @force.eq_2
@[local simp] def u24_force_3 := @force.eq_3
@[local simp] def u24_forget_1 := @forget.eq_1
@[local simp] def u24_forget_2 := @forget.eq_2
@[local simp] def u24_freezes_1 := @freezes.eq_1
@[local simp] def u24_freezes_2 := @freezes.eq_2
@[local simp] def u24_freezes_3 := @freezes.eq_3
@[local simp] def u24_nameS_1 := @nameS.eq_1
@[local simp] def u24_cS_1 := @cS.eq_1
@[local simp] def u24_seqS_1 := @seqS.eq_1
@[local simp] def u24_nilS_1 := @nilS.eq_1
@[local simp] def u24_ifS_1 := @ifS.eq_1
@[local simp] def u24_asgS_1 := @asgS.eq_1
@[local simp] def u24_putS_eq := @putS_eq
@[local simp] def u24_okPut_un := @okPut_un
@[local simp] def u24_okPut_fz := @okPut_fz
@[local simp] def u24_okPut_ow := @okPut_ow
@[local simp] def u24_exprS_1 := @exprS.eq_1
@[local simp] def u24_valT_1 := @valT.eq_1
@[local simp] def u24_notT_1 := @notT.eq_1
@[local simp] def u24_yesT_1 := @yesT.eq_1
@[local simp] def u24_andT_1 := @andT.eq_1
@[local simp] def u24_orT_1 := @orT.eq_1
@[local simp] def u24_argOk_1 := @argOk.eq_1
@[local simp] def u24_argOk_2 := @argOk.eq_2
@[local simp] def u24_argOk_3 := @argOk.eq_3
@[local simp] def u24_outs_1 := @outs.eq_1
@[local simp] def u24_outs_2 := @outs.eq_2
@[local simp] def u24_outs_3 := @outs.eq_3
@[local simp] def u24_outs_4 := @outs.eq_4
@[local simp] def u24_retR_1 := @retR.eq_1
@[local simp] def u24_retR_2 := @retR.eq_2
@[local simp] def u24_vi_1 := @vi.eq_1
@[local simp] def u24_vb_1 := @vb.eq_1
@[local simp high] def u25_mkLst_nil := @mkLst_nil
@[local simp high] def u25_mkTup_nil := @mkTup_nil
@[local simp] def u26_fAdd_1 := @fAdd.eq_1
@[local simp] def u26_fAdd_2 := @fAdd.eq_2
@[local simp] def u26_fAdd_3 := @fAdd.eq_3
@[local simp] def u26_fAdd_4 := @fAdd.eq_4
@[local simp] def u26_fAdd_5 := @fAdd.eq_5
@[local simp] def u26_fSub_1 := @fSub.eq_1
@[local simp] def u26_fSub_2 := @fSub.eq_2
@[local simp] def u26_fLt_1 := @fLt.eq_1
@[local simp] def u26_fLt_2 := @fLt.eq_2
@[local simp] def u26_fLe_1 := @fLe.eq_1
@[local simp] def u26_fLe_2 := @fLe.eq_2
@[local simp] def u26_fGt_1 := @fGt.eq_1
@[local simp] def u26_fGt_2 := @fGt.eq_2
@[local simp] def u26_fGe_1 := @fGe.eq_1
@[local simp] def u26_fGe_2 := @fGe.eq_2
@[local simp] def u26_fLen_1 := @fLen.eq_1
@[local simp] def u26_fLen_2 := @fLen.eq_2
@[local simp] def u26_fLen_3 := @fLen.eq_3
@[local simp] def u26_fLen_4 := @fLen.eq_4
@[local simp] def u26_fLen_5 := @fLen.eq_5
@[local simp] def u26_fMax2_1 := @fMax2.eq_1
@[local simp] def u26_fMax2_2 := @fMax2.eq_2
@[local simp] def u26_fMin2_1 := @fMin2.eq_1
@[local simp] def u26_fMin2_2 := @fMin2.eq_2
@[local simp] def u26_fTuple_1 := @fTuple.eq_1
@[local simp] def u26_fTuple_2 := @fTuple.eq_2
@[local simp] def u26_fTuple_3 := @fTuple.eq_3
@[local simp] def u26_fList_1 := @fList.eq_1
@[local simp] def u26_fList_2 := @fList.eq_2
@[local simp] def u26_fList_3 := @fList.eq_3
@[local simp] def u26_srcV_1 := @srcV.eq_1
@[local simp] def u26_seqOf_1 := @seqOf.eq_1
@[local simp] def u26_seqOf_2 := @seqOf.eq_2
@[local simp] def u26_seqOf_3 := @seqOf.eq_3
@[local simp] def u26_maskS_1 := @maskS.eq_1
@[local simp] def u26_maskS_2 := @maskS.eq_2
@[local simp] def u26_backS_1 := @backS.eq_1
@[local simp] def u26_backS_2 := @backS.eq_2
@[local simp] def u26_wipeS_1 := @wipeS.eq_1
@[local simp] def u26_wipeS_2 := @wipeS.eq_2
@[local simp] def u26_unwipeS_1 := @unwipeS.eq_1
@[local simp] def u26_unwipeS_2 := @unwipeS.eq_2
@[local simp] def u26_freeOf_1 := @freeOf.eq_1
@[local simp] def u26_freeOf_2 := @freeOf.eq_2
@[local simp] def u26_tgt1_1 := @tgt1.eq_1
@[local simp] def u26_stepL_1 := @stepL.eq_1
@[local simp] def u26_callP_1 := @callP.eq_1
@[local simp] def u26_ifxS_1 := @ifxS.eq_1
@[local simp] def u27_fIx_t0 := @fIx_t0
@[local simp] def u27_fIx_t1 := @fIx_t1
@[local simp] def u27_fIx_l0 := @fIx_l0
@[local simp] def u27_fIx_l1 := @fIx_l1
@[local simp] def u27_fIx_tupN := @fIx_tupN
@[local simp] def u27_fIx_lstN := @fIx_lstN
@[local simp] def u27_fIx_frzN := @fIx_frzN
@[local simp] def u27_fEq_int := @fEq_int
@[local simp] def u27_fEq_bl := @fEq_bl
@[local simp] def u27_fNe_int := @fNe_int
@[local simp] def u27_fNe_bl := @fNe_bl
@[local simp] def u27_fAbs_eq := @fAbs_eq
@[local simp] def u27_fMod_1 := @fMod.eq_1
@[local simp] def u27_fMod_2 := @fMod.eq_2
@[local simp] def u27_fDiv_1 := @fDiv.eq_1
@[local simp] def u27_fDiv_2 := @fDiv.eq_2
@[local simp] def u27_fMul_1 := @fMul.eq_1
@[local simp] def u27_fMul_2 := @fMul.eq_2
@[local simp] def u27_fMul_3 := @fMul.eq_3
@[local simp] def u27_fPow_1 := @fPow.eq_1
@[local simp] def u27_fPow_2 := @fPow.eq_2
@[local simp] def u28_callS_1 := @callS.eq_1
@[local simp] def u28_frzA_1 := @frzA.eq_1
@[local simp] def u28_frzA_2 := @frzA.eq_2
@[local simp] def u28_frzA_3 := @frzA.eq_3
@[local simp] def u28_frzA_4 := @frzA.eq_4
@[local simp] def u28_argA_1 := @argA.eq_1
@[local simp] def u28_argA_2 := @argA.eq_2
@[local simp] def u28_argA_3 := @argA.eq_3
@[local simp] def u28_argA_4 := @argA.eq_4
@[local simp] def u28_argA_5 := @argA.eq_5
@[local simp] def u28_ioIx_1 := @ioIx.eq_1
@[local simp] def u28_ioIx_2 := @ioIx.eq_2
@[local simp] def u28_ioIx_3 := @ioIx.eq_3
@[local simp] def u28_backA_1 := @backA.eq_1
@[local simp] def u28_backA_2 := @backA.eq_2
@[local simp] def u28_backA_3 := @backA.eq_3
@[local simp] def u28_backA_4 := @backA.eq_4
@[local simp] def u28_setS_1 := @setS.eq_1
@[local simp] def u28_owLst_1 := @owLst.eq_1
@[local simp] def u28_owLst_2 := @owLst.eq_2
@[local simp] def u28_isLst_1 := @isLst.eq_1
@[local simp] def u28_isLst_2 := @isLst.eq_2

/-! ### the law k05 -/
abbrev inS (sc : D) (k : Int) (cl : D) (many : Nat) (f : D) (s5 s6 s7 s8 s9 s10 s11 s12 : S) : Rho := [.fz sc, .fz (.int k), .fz cl, .fz (.int many), .ow false f, s5, s6, s7, s8, s9, s10, s11, s12, .un, .un]
theorem bools_ok {f : D} (hf : isFeed f) (ρ : D → Rho) (n : Nat) (hn : n ≤ 1000)
    (hst : ∀ (x : D) (f f' : D) (r : Nat), m__law_take [.ow true f, .fz (.int 2)] = some (.val (.int r), [.ow true f', .un]) → stepL [14] (tgt1 14) yesT (opS fEq [callS m__law_take [true, false] [nameS 4, cS (.int 2)], cS (.int 1)]) x (ρ f) = some (some (.bl ((r : Int) == 1)), ρ f')) :
    ∃ (p : List Bool) (f' : D), p.length = n ∧ isFeed f' ∧ compL [14] (tgt1 14) yesT (opS fEq [callS m__law_take [true, false] [nameS 4, cS (.int 2)], cS (.int 1)]) (rngD 0 n) (ρ f) = some (p.map .bl, ρ f') := by
  obtain ⟨ds, ρ', eC, ⟨f', hf', rfl⟩, hl, hG⟩ := compL_inv (own := [14]) (tgt := tgt1 14) (cond := yesT) (elt := opS fEq [callS m__law_take [true, false] [nameS 4, cS (.int 2)], cS (.int 1)])
    (fun ρ' => ∃ f, isFeed f ∧ ρ' = ρ f) (fun d => ∃ b, d = .bl b) (rngD 0 n) _ ⟨f, hf, rfl⟩ (by
      rintro x hx _ ⟨f, hf, rfl⟩
      obtain ⟨r, f1, hr, hf1, e1⟩ := take_ok hf 2 (by decide) (by decide)
      exact ⟨_, _, hst x f f1 r e1, ⟨f1, hf1, rfl⟩, _, rfl⟩)
  have : ∀ ds : List D, (∀ d ∈ ds, ∃ b, d = .bl b) → ∃ p : List Bool, ds = p.map .bl := fun ds => by
    induction ds with
    | nil => exact fun _ => ⟨[], rfl⟩
    | cons d ds ih =>
      intro h
      obtain ⟨b, rfl⟩ := h d List.mem_cons_self
      obtain ⟨p, rfl⟩ := ih fun x hx => h x (List.mem_cons_of_mem _ hx)
      exact ⟨b :: p, rfl⟩
  obtain ⟨p, rfl⟩ := this ds hG
  exact ⟨p, f', by simpa [rngD] using hl, hf', eC⟩
theorem law_first {f : D} (hf : isFeed f) (sc : D) (k : Int) (cl : D) (many size : Nat) (hs : size ≤ 1000) (s5 s7 s8 s9 s10 s11 s12 : S) (h7 : okPut (some s7) = true) : ∃ (p : List Bool) (f' : D), p.length = size ∧ isFeed f' ∧
    asgS 7 (opS fTuple [compS [14] (srcK rngF [nameS 6]) (tgt1 14) (yesT) (opS fEq [callS m__law_take [true, false] [nameS 4, cS (.int 2)], cS (.int 1)])]) (inS sc k cl many f s5 (.fz (.int size)) s7 s8 s9 s10 s11 s12) =
      some (.nx, inS sc k cl many f' s5 (.fz (.int size)) (.fz (pD p)) s8 s9 s10 s11 s12) := by
  obtain ⟨p, f', hp, hf', eC⟩ := bools_ok hf (fun f => inS sc k cl many f s5 (.fz (.int size)) s7 s8 s9 s10 s11 s12) size hs (fun x f f' r e => by
    simp [e])
  have q : srcK rngF [nameS 6] (inS sc k cl many f s5 (.fz (.int size)) s7 s8 s9 s10 s11 s12) = some (rngD 0 size, none, inS sc k cl many f s5 (.fz (.int size)) s7 s8 s9 s10 s11 s12) := by
    refine srcK_ok (ds := [.int size]) (rs := [.val (.int size)]) ?_ rfl (rngF_nat size (by omega))
    simp
  have e := compS_ok (own := [14]) (ρ3 := inS sc k cl many f' s5 (.fz (.int size)) s7 s8 s9 s10 s11 s12) q (by simp [rngD]; omega) rfl eC rfl
  refine ⟨p, f', hp, hf', ?_⟩
  have e2 : opS fTuple [compS [14] (srcK rngF [nameS 6]) (tgt1 14) (yesT) (opS fEq [callS m__law_take [true, false] [nameS 4, cS (.int 2)], cS (.int 1)])] (inS sc k cl many f s5 (.fz (.int size)) s7 s8 s9 s10 s11 s12) = some (.val (pD p), inS sc k cl many f' s5 (.fz (.int size)) s7 s8 s9 s10 s11 s12) :=
    opS_ok (rs := [.val (.lst (p.map .bl))]) (by simp only [evs, e]; rfl) rfl rfl
  rw [asgS_val e2 h7]
  rfl
theorem law_second {f : D} (hf : isFeed f) (sc : D) (k : Int) (cl : D) (many size : Nat) (hm : many ≤ 100) (hs : size ≤ many) (s5 s7 s8 s9 s10 s11 s12 : S) (h8 : okPut (some s8) = true) : ∃ (p : List Bool) (f' : D), p.length + size ≤ many ∧ isFeed f' ∧
    asgS 8 (opS fTuple [compS [14] (srcK rngF [callS m__law_take [true, false] [nameS 4, opS fAdd [opS fSub [nameS 3, nameS 6], cS (.int 1)]]]) (tgt1 14) (yesT) (opS fEq [callS m__law_take [true, false] [nameS 4, cS (.int 2)], cS (.int 1)])]) (inS sc k cl many f s5 (.fz (.int size)) s7 s8 s9 s10 s11 s12) =
      some (.nx, inS sc k cl many f' s5 (.fz (.int size)) s7 (.fz (pD p)) s9 s10 s11 s12) := by
  obtain ⟨r, f1, hr, hf1, e1⟩ := take_ok hf ((many : Int) - size + 1) (by omega) (by omega)
  obtain ⟨p, f', hp, hf', eC⟩ := bools_ok hf1 (fun f => inS sc k cl many f s5 (.fz (.int size)) s7 s8 s9 s10 s11 s12) r (by omega) (fun x f f' r e => by
    simp [e])
  have q : srcK rngF [callS m__law_take [true, false] [nameS 4, opS fAdd [opS fSub [nameS 3, nameS 6], cS (.int 1)]]] (inS sc k cl many f s5 (.fz (.int size)) s7 s8 s9 s10 s11 s12) = some (rngD 0 r, none, inS sc k cl many f1 s5 (.fz (.int size)) s7 s8 s9 s10 s11 s12) := by
    refine srcK_ok (ds := [.int r]) (rs := [.val (.int r)]) ?_ rfl (rngF_nat r (by omega))
    simp [e1]
  have e := compS_ok (own := [14]) (ρ3 := inS sc k cl many f' s5 (.fz (.int size)) s7 s8 s9 s10 s11 s12) q (by simp [rngD]; omega) rfl eC rfl
  refine ⟨p, f', by omega, hf', ?_⟩
  have e2 : opS fTuple [compS [14] (srcK rngF [callS m__law_take [true, false] [nameS 4, opS fAdd [opS fSub [nameS 3, nameS 6], cS (.int 1)]]]) (tgt1 14) (yesT) (opS fEq [callS m__law_take [true, false] [nameS 4, cS (.int 2)], cS (.int 1)])] (inS sc k cl many f s5 (.fz (.int size)) s7 s8 s9 s10 s11 s12) = some (.val (pD p), inS sc k cl many f' s5 (.fz (.int size)) s7 s8 s9 s10 s11 s12) :=
    opS_ok (rs := [.val (.lst (p.map .bl))]) (by simp only [evs, e]; rfl) rfl rfl
  rw [asgS_val e2 h8]
  rfl
end Al
end
section
namespace Al
open PySem
@[local simp] def u29_run_1 := @run.eq_1
@[local simp] def u29_retS_1 := @retS.eq_1
@[local simp] def u29_opS_1 := @opS.eq_1
@[local simp] def u29_keepS_1 := @keepS.eq_1
@[local simp] def u29_tupS_1 := @tupS.eq_1
@[local simp] def u29_lstS_1 := @lstS.eq_1
@[local simp] def u29_mkTup_1 := @mkTup.eq_1
@[local simp] def u29_mkLst_1 := @mkLst.eq_1
@[local simp] def u29_evs_1 := @evs.eq_1
@[local simp] def u29_evs_2 := @evs.eq_2
@[local simp] def u29_peeks_1 := @peeks.eq_1
@[local simp] def u29_peeks_2 := @peeks.eq_2
@[local simp] def u29_peek_1 := @peek.eq_1
@[local simp] def u29_peek_2 := @peek.eq_2
@[local simp] def u29_peek_3 := @peek.eq_3
@[local simp] def u29_forces_1 := @forces.eq_1
@[local simp] def u29_forces_2 := @forces.eq_2
@[local simp] def u29_force_1 := @force.eq_1
@[local simp] def u29_force_2 := @force.eq_2
@[local simp] def u29_force_3 := @force.eq_3
@[local simp] def u29_forget_1 := @forget.eq_1
@[local simp] def u29_forget_2 := @forget.eq_2
@[local simp] def u29_freezes_1 := @freezes.eq_1
@[local simp] def u29_freezes_2 := @freezes.eq_2
@[local simp] def u29_freezes_3 := @freezes.eq_3
@[local simp] def u29_nameS_1 := @nameS.eq_1
@[local simp] def u29_cS_1 := @cS.eq_1
@[local simp] def u29_seqS_1 := @seqS.eq_1
@[local simp] def u29_nilS_1 := @nilS.eq_1
@[local simp] def u29_ifS_1 := @ifS.eq_1
@[local simp] def u29_asgS_1 := @asgS.eq_1
@[local simp] def u29_putS_eq := @putS_eq
@[local simp] def u29_okPut_un := @okPut_un
@[local simp] def u29_okPut_fz := @okPut_fz
@[local simp] def u29_okPut_ow := @okPut_ow
@[local simp] def u29_exprS_1 := @exprS.eq_1
@[local simp] def u29_valT_1 := @valT.eq_1
@[local simp] def u29_notT_1 := @notT.eq_1
@[local simp] def u29_yesT_1 := @yesT.eq_1
@[local simp] def u29_andT_1 := @andT.eq_1
@[local simp] def u29_orT_1 := @orT.eq_1
@[local simp] def u29_argOk_1 := @argOk.eq_1
@[local simp] def u29_argOk_2 := @argOk.eq_2
@[local simp] def u29_argOk_3 := @argOk.eq_3
@[local simp] def u29_outs_1 := @outs.eq_1
@[local simp] def u29_outs_2 := @outs.eq_2
@[local simp] def u29_outs_3 := @outs.eq_3
@[local simp] def u29_outs_4 := @outs.eq_4
@[local simp] def u29_retR_1 := @retR.eq_1
@[local simp] def u29_retR_2 := @retR.eq_2
@[local simp] def u29_vi_1 := @vi.eq_1
@[local simp] def u29_vb_1 := @vb.eq_1
@[local simp high] def u30_mkLst_nil := @mkLst_nil
@[local simp high] def u30_mkTup_nil := @mkTup_nil
@[local simp] def u31_fAdd_1 := @fAdd.eq_1
@[local simp] def u31_fAdd_2 := @fAdd.eq_2
@[local simp] def u31_fAdd_3 := @fAdd.eq_3
@[local simp] def u31_fAdd_4 := @fAdd.eq_4
@[local simp] def u31_fAdd_5 := @fAdd.eq_5
@[local simp] def u31_fSub_1 := @fSub.eq_1
@[local simp] def u31_fSub_2 := @fSub.eq_2
@[local simp] def u31_fLt_1 := @fLt.eq_1
@[local simp] def u31_fLt_2 := @fLt.eq_2
@[local simp] def u31_fLe_1 := @fLe.eq_1
@[local simp] def u31_fLe_2 := @fLe.eq_2
@[local simp] def u31_fGt_1 := @fGt.eq_1
@[local simp] def u31_fGt_2 := @fGt.eq_2
@[local simp] def u31_fGe_1 := @fGe.eq_1
@[local simp] def u31_fGe_2 := @fGe.eq_2
@[local simp] def u31_fLen_1 := @fLen.eq_1
@[local simp] def u31_fLen_2 := @fLen.eq_2
@[local simp] def u31_fLen_3 := @fLen.eq_3
@[local simp] def u31_fLen_4 := @fLen.eq_4
@[local simp] def u31_fLen_5 := @fLen.eq_5
@[local simp] def u31_fMax2_1 := @fMax2.eq_1
@[local simp] def u31_fMax2_2 := @fMax2.eq_2
@[local simp] def u31_fMin2_1 := @fMin2.eq_1
@[local simp] def u31_fMin2_2 := @fMin2.eq_2
@[local simp] def u31_fTuple_1 := @fTuple.eq_1
@[local simp] def u31_fTuple_2 := @fTuple.eq_2
@[local simp] def u31_fTuple_3 := @fTuple.eq_3
@[local simp] def u31_fList_1 := @fList.eq_1
@[local simp] def u31_fList_2 := @fList.eq_2
@[local simp] def u31_fList_3 := @fList.eq_3
@[local simp] def u31_srcV_1 := @srcV.eq_1
@[local simp] def u31_seqOf_1 := @seqOf.eq_1
@[local simp] def u31_seqOf_2 := @seqOf.eq_2
@[local simp] def u31_seqOf_3 := @seqOf.eq_3
@[local simp] def u31_maskS_1 := @maskS.eq_1
@[local simp] def u31_maskS_2 := @maskS.eq_2
@[local simp] def u31_backS_1 := @backS.eq_1
@[local simp] def u31_backS_2 := @backS.eq_2
@[local simp] def u31_wipeS_1 := @wipeS.eq_1
@[local simp] def u31_wipeS_2 := @wipeS.eq_2
@[local simp] def u31_unwipeS_1 := @unwipeS.eq_1
@[local simp] def u31_unwipeS_2 := @unwipeS.eq_2
@[local simp] def u31_freeOf_1 := @freeOf.eq_1
@[local simp] def u31_freeOf_2 := @freeOf.eq_2
@[local simp] def u31_tgt1_1 := @tgt1.eq_1
@[local simp] def u31_stepL_1 := @stepL.eq_1
@[local simp] def u31_callP_1 := @callP.eq_1
@[local simp] def u31_ifxS_1 := @ifxS.eq_1
@[local simp] def u32_fIx_t0 := @fIx_t0
@[local simp] def u32_fIx_t1 := @fIx_t1
@[local simp] def u32_fIx_l0 := @fIx_l0
@[local simp] def u32_fIx_l1 := @fIx_l1
@[local simp] def u32_fIx_tupN := @fIx_tupN
@[local simp] def u32_fIx_lstN := @fIx_lstN
@[local simp] def u32_fIx_frzN := @fIx_frzN
@[local simp] def u32_fEq_int := @fEq_int
@[local simp] def u32_fEq_bl := @fEq_bl
@[local simp] def u32_fNe_int := @fNe_int
@[local simp] def u32_fNe_bl := @fNe_bl
@[local simp] def u32_fAbs_eq := @fAbs_eq
@[local simp] def u32_fMod_1 := @fMod.eq_1
@[local simp] def u32_fMod_2 := @fMod.eq_2
@[local simp] def u32_fDiv_1 := @fDiv.eq_1
@[local simp] def u32_fDiv_2 := @fDiv.eq_2
@[local simp] def u32_fMul_1 := @fMul.eq_1
@[local simp] def u32_fMul_2 := @fMul.eq_2
@[local simp] def u32_fMul_3 := @fMul.eq_3
@[local simp] def u32_fPow_1 := @fPow.eq_1
@[local simp] def u32_fPow_2 := @fPow.eq_2
@[local simp] def u33_callS_1 := @callS.eq_1
@[local simp] def u33_frzA_1 := @frzA.eq_1
@[local simp] def u33_frzA_2 := @frzA.eq_2
@[local simp] def u33_frzA_3 := @frzA.eq_3
@[local simp] def u33_frzA_4 := @frzA.eq_4
@[local simp] def u33_argA_1 := @argA.eq_1
@[local simp] def u33_argA_2 := @argA.eq_2
@[local simp] def u33_argA_3 := @argA.eq_3
@[local simp] def u33_argA_4 := @argA.eq_4
@[local simp] def u33_argA_5 := @argA.eq_5
@[local simp] def u33_ioIx_1 := @ioIx.eq_1
@[local simp] def u33_ioIx_2 := @ioIx.eq_2
@[local simp] def u33_ioIx_3 := @ioIx.eq_3
@[local simp] def u33_backA_1 := @backA.eq_1
@[local simp] def u33_backA_2 := @backA.eq_2
@[local simp] def u33_backA_3 := @backA.eq_3
@[local simp] def u33_backA_4 := @backA.eq_4
@[local simp] def u33_setS_1 := @setS.eq_1
@[local simp] def u33_owLst_1 := @owLst.eq_1
@[local simp] def u33_owLst_2 := @owLst.eq_2
@[local simp] def u33_isLst_1 := @isLst.eq_1
@[local simp] def u33_isLst_2 := @isLst.eq_2

theorem eqv_refl : ∀ (n : Nat) (d : D), D.flatN n d = true → D.eqv d d = true
  | 0, d, h => by
    cases d <;> simp [D.flatN, D.flat0] at h <;> simp [D.eqv]
  | n + 1, d, h => by
    have ls : ∀ l : List D, l.all (D.flatN n) = true → D.eqvs l l = true := fun l => by
      induction l with
      | nil => intro _; simp [D.eqvs]
      | cons a l ih =>
        intro h
        rw [List.all_cons, Bool.and_eq_true] at h
        simp only [D.eqvs, eqv_refl n a h.1, ih h.2, Bool.and_self]
    cases d with
    | tup l => simp only [D.eqv]; exact ls l h
    | lst l => simp only [D.eqv]; exact ls l h
    | _ => simp [D.flatN, D.flat0] at h <;> simp [D.eqv]
theorem fNe_same {d : D} (h : plain d = true) : fNe [d, d] = some (.val (.bl false)) := by
  simp only [fNe, h, eqv_refl 60 d h]; rfl
theorem flat_kD (n : Nat) (b : Bool) : D.flatN n (kD b) = true := by
  have e : D.flatN n (kD b) = okStr (if b then "some" else "all") := by cases n <;> rfl
  rw [e]
  cases b <;> decide +kernel
theorem plain_cD (ks : List Bool) (rs : List (List Int)) : plain (cD ks rs) = true := by
  have h1 : (ks.map kD).all (D.flatN 58) = true := by
    rw [List.all_eq_true]
    intro x hx
    obtain ⟨b, _, rfl⟩ := List.mem_map.mp hx
    exact flat_kD _ b
  have h2 : (rs.map rD).all (D.flatN 58) = true := by
    rw [List.all_eq_true]
    intro x hx
    obtain ⟨r, _, rfl⟩ := List.mem_map.mp hx
    simp [D.flatN, D.flat0]
  show (D.flatN 59 (.tup (ks.map kD)) && (D.flatN 59 (.tup (rs.map rD)) && true)) = true
  have h1 : D.flatN 59 (.tup (ks.map kD)) = true := h1
  have h2 : D.flatN 59 (.tup (rs.map rD)) = true := h2
  rw [h1, h2]; rfl
theorem plain_bls (p : List Bool) : plain (.lst (p.map .bl)) = true := by
  simp [plain, D.flatN, D.flat0]
theorem count_nil (rs : List (List Int)) : fCount (rs.map rD) [.tup []] = some (.val (.int (rs.countP (fun r => r.isEmpty) : Nat))) := by
  have h1 : plain (.tup []) = true := rfl
  have h2 : (rs.map rD).all plain = true := by
    rw [List.all_eq_true]
    intro x hx
    obtain ⟨r, _, rfl⟩ := List.mem_map.mp hx
    simp [plain, D.flatN, D.flat0]
  have h3 : (rs.map rD).countP (fun e => D.eqv e (.tup [])) = rs.countP (fun r => r.isEmpty) := by
    rw [List.countP_map]
    congr 1
    funext r
    cases r <;> simp [D.eqv, D.eqvs]
  simp only [fCount, h1, h2, h3]; rfl
theorem small_left {ks : List Bool} {rs : List (List Int)} (S : Small ks rs) (p : List Bool) : Small (ks.drop p.length) (leftRs rs p) := by
  refine ⟨by have := S.kl; rw [List.length_drop]; omega, by have := S.rl; have := left_len rs p; omega, fun r hr => ?_⟩
  unfold leftRs at hr
  obtain ⟨x, hx, rfl⟩ := List.mem_map.mp hr
  have := S.rr x (List.mem_filter.mp hx).1
  have : (leftR p x).length ≤ x.length := by
    unfold leftR
    rw [List.length_map]
    exact List.length_filter_le _ _
  omega
theorem leftRs_mem {rs : List (List Int)} {p : List Bool} {r : List Int} (h : r ∈ leftRs rs p) : ∃ x ∈ rs, r = leftR p x := by
  unfold leftRs at h
  obtain ⟨x, hx, rfl⟩ := List.mem_map.mp h
  exact ⟨x, (List.mem_filter.mp hx).1, rfl⟩
theorem map_app (a b : List Bool) : a.map D.bl ++ b.map D.bl = (a ++ b).map D.bl := List.map_append.symm

section
variable {ks : List Bool} {rs : List (List Int)} (C : ClOk 6 10 ks rs) {a b : List Bool} (hab : a.length + b.length ≤ ks.length)
include C
theorem ClOk.small : Small ks rs := ⟨by have := C.kl; omega, by have := C.rl; omega, fun r hr => by have := (C.ro r hr).2.2; have := C.kl; omega⟩
theorem ClOk.one : ∀ r ∈ rs, Row1 r := fun r hr => (C.ro r hr).1.one
theorem ClOk.rin : ∀ r ∈ rs, RowIn ks.length r := fun r hr => (C.ro r hr).1
include hab
theorem rest_claim : m_is_claim [.fz (cD (ks.drop a.length) (leftRs rs a))] = some (.val (.bl true), [.un]) := by
  refine claim_eq _ _ (by have := C.kl; rw [List.length_drop]; omega) (by have := C.rl; have := left_len rs a; omega) fun r hr => ?_
  obtain ⟨x, hx, rfl⟩ := leftRs_mem hr
  obtain ⟨h1, h2, h3⟩ := rowok_left (a := a) (C.ro x hx) (by omega)
  have := (C.ro x hx).2.2
  have := C.kl
  exact ⟨by rw [List.length_drop]; exact h1, h2, by omega⟩
theorem rest_play : m_is_play [.fz (cD ks rs), .fz (pD (a ++ b))] = some (.val (.bl true), [.un, .un]) :=
  play_eq ks rs (a ++ b) (by rw [List.length_append]; exact hab) (by have := C.kl; omega)
theorem rest_left : m_left [.fz (cD (ks.drop a.length) (leftRs rs a)), .fz (pD b)] = some (.val (cD (ks.drop (a ++ b).length) (leftRs rs (a ++ b))), [.un, .un]) := by
  rw [left_eq _ _ b (small_left C.small a) (fun r hr => by obtain ⟨x, hx, rfl⟩ := leftRs_mem hr; exact row1_left), left_app rs a b C.one, List.drop_drop, List.length_append]
theorem whole_left : m_left [.fz (cD ks rs), .fz (pD (a ++ b))] = some (.val (cD (ks.drop (a ++ b).length) (leftRs rs (a ++ b))), [.un, .un]) :=
  left_eq _ _ _ C.small C.one
theorem rest_rin : ∀ r ∈ leftRs rs a, RowIn (ks.drop a.length).length r := fun r hr => by
  obtain ⟨x, hx, rfl⟩ := leftRs_mem hr
  obtain ⟨h1, h2, h3⟩ := rowok_left (a := a) (C.ro x hx) (by omega)
  rw [List.length_drop]; exact h1
theorem rest_win : m_winner [.fz (cD (ks.drop a.length) (leftRs rs a)), .fz (pD b)] = some (.val (kD (winN ks rs 12 (a ++ b))), [.un, .un]) := by
  have := C.kl
  unfold m_winner
  rw [winner_eq _ _ (small_left C.small a) (rest_rin C hab) 12 b (by rw [List.length_drop]; omega) (by rw [List.length_drop]; omega), win_app ks rs a C.one]
theorem whole_win : m_winner [.fz (cD ks rs), .fz (pD (a ++ b))] = some (.val (kD (winN ks rs 12 (a ++ b))), [.un, .un]) := by
  have := C.kl
  exact winner_eq _ _ C.small C.rin 12 (a ++ b) (by rw [List.length_append]; omega) (by omega)
theorem rest_good : m_good_picks [.fz (cD (ks.drop a.length) (leftRs rs a)), .fz (pD b)] = some (.fr (.lst ((goodN ks rs 12 (a ++ b)).map .bl)), [.un, .un]) := by
  have := C.kl
  rw [good_eq _ _ (small_left C.small a) (rest_rin C hab) b (by rw [List.length_drop]; omega) (by rw [List.length_drop]; omega), good_app ks rs a 12 b C.one (by omega)]
theorem whole_good : m_good_picks [.fz (cD ks rs), .fz (pD (a ++ b))] = some (.fr (.lst ((goodN ks rs 12 (a ++ b)).map .bl)), [.un, .un]) := by
  have := C.kl
  exact good_eq _ _ C.small C.rin (a ++ b) (by rw [List.length_append]; omega) (by omega)
end
end Al
end
section
namespace Al
open PySem
@[local simp] def u34_run_1 := @run.eq_1
@[local simp] def u34_retS_1 := @retS.eq_1
@[local simp] def u34_opS_1 := @opS.eq_1
@[local simp] def u34_keepS_1 := @keepS.eq_1
@[local simp] def u34_tupS_1 := @tupS.eq_1
@[local simp] def u34_lstS_1 := @lstS.eq_1
@[local simp] def u34_mkTup_1 := @mkTup.eq_1
@[local simp] def u34_mkLst_1 := @mkLst.eq_1
@[local simp] def u34_evs_1 := @evs.eq_1
@[local simp] def u34_evs_2 := @evs.eq_2
@[local simp] def u34_peeks_1 := @peeks.eq_1
@[local simp] def u34_peeks_2 := @peeks.eq_2
@[local simp] def u34_peek_1 := @peek.eq_1
@[local simp] def u34_peek_2 := @peek.eq_2
@[local simp] def u34_peek_3 := @peek.eq_3
@[local simp] def u34_forces_1 := @forces.eq_1
@[local simp] def u34_forces_2 := @forces.eq_2
@[local simp] def u34_force_1 := @force.eq_1
@[local simp] def u34_force_2 := @force.eq_2
@[local simp] def u34_force_3 := @force.eq_3
@[local simp] def u34_forget_1 := @forget.eq_1
@[local simp] def u34_forget_2 := @forget.eq_2
@[local simp] def u34_freezes_1 := @freezes.eq_1
@[local simp] def u34_freezes_2 := @freezes.eq_2
@[local simp] def u34_freezes_3 := @freezes.eq_3
@[local simp] def u34_nameS_1 := @nameS.eq_1
@[local simp] def u34_cS_1 := @cS.eq_1
@[local simp] def u34_seqS_1 := @seqS.eq_1
@[local simp] def u34_nilS_1 := @nilS.eq_1
@[local simp] def u34_ifS_1 := @ifS.eq_1
@[local simp] def u34_asgS_1 := @asgS.eq_1
@[local simp] def u34_putS_eq := @putS_eq
@[local simp] def u34_okPut_un := @okPut_un
@[local simp] def u34_okPut_fz := @okPut_fz
@[local simp] def u34_okPut_ow := @okPut_ow
@[local simp] def u34_exprS_1 := @exprS.eq_1
@[local simp] def u34_valT_1 := @valT.eq_1
@[local simp] def u34_notT_1 := @notT.eq_1
@[local simp] def u34_yesT_1 := @yesT.eq_1
@[local simp] def u34_andT_1 := @andT.eq_1
@[local simp] def u34_orT_1 := @orT.eq_1
@[local simp] def u34_argOk_1 := @argOk.eq_1
@[local simp] def u34_argOk_2 := @argOk.eq_2
@[local simp] def u34_argOk_3 := @argOk.eq_3
@[local simp] def u34_outs_1 := @outs.eq_1
@[local simp] def u34_outs_2 := @outs.eq_2
@[local simp] def u34_outs_3 := @outs.eq_3
@[local simp] def u34_outs_4 := @outs.eq_4
@[local simp] def u34_retR_1 := @retR.eq_1
@[local simp] def u34_retR_2 := @retR.eq_2
@[local simp] def u34_vi_1 := @vi.eq_1
@[local simp] def u34_vb_1 := @vb.eq_1
@[local simp high] def u35_mkLst_nil := @mkLst_nil
@[local simp high] def u35_mkTup_nil := @mkTup_nil
@[local simp] def u36_fAdd_1 := @fAdd.eq_1
@[local simp] def u36_fAdd_2 := @fAdd.eq_2
@[local simp] def u36_fAdd_3 := @fAdd.eq_3
@[local simp] def u36_fAdd_4 := @fAdd.eq_4
@[local simp] def u36_fAdd_5 := @fAdd.eq_5
@[local simp] def u36_fSub_1 := @fSub.eq_1
@[local simp] def u36_fSub_2 := @fSub.eq_2
@[local simp] def u36_fLt_1 := @fLt.eq_1
@[local simp] def u36_fLt_2 := @fLt.eq_2
@[local simp] def u36_fLe_1 := @fLe.eq_1
@[local simp] def u36_fLe_2 := @fLe.eq_2
@[local simp] def u36_fGt_1 := @fGt.eq_1
@[local simp] def u36_fGt_2 := @fGt.eq_2
@[local simp] def u36_fGe_1 := @fGe.eq_1
@[local simp] def u36_fGe_2 := @fGe.eq_2
@[local simp] def u36_fLen_1 := @fLen.eq_1
@[local simp] def u36_fLen_2 := @fLen.eq_2
@[local simp] def u36_fLen_3 := @fLen.eq_3
@[local simp] def u36_fLen_4 := @fLen.eq_4
@[local simp] def u36_fLen_5 := @fLen.eq_5
@[local simp] def u36_fMax2_1 := @fMax2.eq_1
@[local simp] def u36_fMax2_2 := @fMax2.eq_2
@[local simp] def u36_fMin2_1 := @fMin2.eq_1
@[local simp] def u36_fMin2_2 := @fMin2.eq_2
@[local simp] def u36_fTuple_1 := @fTuple.eq_1
@[local simp] def u36_fTuple_2 := @fTuple.eq_2
@[local simp] def u36_fTuple_3 := @fTuple.eq_3
@[local simp] def u36_fList_1 := @fList.eq_1
@[local simp] def u36_fList_2 := @fList.eq_2
@[local simp] def u36_fList_3 := @fList.eq_3
@[local simp] def u36_srcV_1 := @srcV.eq_1
@[local simp] def u36_seqOf_1 := @seqOf.eq_1
@[local simp] def u36_seqOf_2 := @seqOf.eq_2
@[local simp] def u36_seqOf_3 := @seqOf.eq_3
@[local simp] def u36_maskS_1 := @maskS.eq_1
@[local simp] def u36_maskS_2 := @maskS.eq_2
@[local simp] def u36_backS_1 := @backS.eq_1
@[local simp] def u36_backS_2 := @backS.eq_2
@[local simp] def u36_wipeS_1 := @wipeS.eq_1
@[local simp] def u36_wipeS_2 := @wipeS.eq_2
@[local simp] def u36_unwipeS_1 := @unwipeS.eq_1
@[local simp] def u36_unwipeS_2 := @unwipeS.eq_2
@[local simp] def u36_freeOf_1 := @freeOf.eq_1
@[local simp] def u36_freeOf_2 := @freeOf.eq_2
@[local simp] def u36_tgt1_1 := @tgt1.eq_1
@[local simp] def u36_stepL_1 := @stepL.eq_1
@[local simp] def u36_callP_1 := @callP.eq_1
@[local simp] def u36_ifxS_1 := @ifxS.eq_1
@[local simp] def u37_fIx_t0 := @fIx_t0
@[local simp] def u37_fIx_t1 := @fIx_t1
@[local simp] def u37_fIx_l0 := @fIx_l0
@[local simp] def u37_fIx_l1 := @fIx_l1
@[local simp] def u37_fIx_tupN := @fIx_tupN
@[local simp] def u37_fIx_lstN := @fIx_lstN
@[local simp] def u37_fIx_frzN := @fIx_frzN
@[local simp] def u37_fEq_int := @fEq_int
@[local simp] def u37_fEq_bl := @fEq_bl
@[local simp] def u37_fNe_int := @fNe_int
@[local simp] def u37_fNe_bl := @fNe_bl
@[local simp] def u37_fAbs_eq := @fAbs_eq
@[local simp] def u37_fMod_1 := @fMod.eq_1
@[local simp] def u37_fMod_2 := @fMod.eq_2
@[local simp] def u37_fDiv_1 := @fDiv.eq_1
@[local simp] def u37_fDiv_2 := @fDiv.eq_2
@[local simp] def u37_fMul_1 := @fMul.eq_1
@[local simp] def u37_fMul_2 := @fMul.eq_2
@[local simp] def u37_fMul_3 := @fMul.eq_3
@[local simp] def u37_fPow_1 := @fPow.eq_1
@[local simp] def u37_fPow_2 := @fPow.eq_2
@[local simp] def u38_callS_1 := @callS.eq_1
@[local simp] def u38_frzA_1 := @frzA.eq_1
@[local simp] def u38_frzA_2 := @frzA.eq_2
@[local simp] def u38_frzA_3 := @frzA.eq_3
@[local simp] def u38_frzA_4 := @frzA.eq_4
@[local simp] def u38_argA_1 := @argA.eq_1
@[local simp] def u38_argA_2 := @argA.eq_2
@[local simp] def u38_argA_3 := @argA.eq_3
@[local simp] def u38_argA_4 := @argA.eq_4
@[local simp] def u38_argA_5 := @argA.eq_5
@[local simp] def u38_ioIx_1 := @ioIx.eq_1
@[local simp] def u38_ioIx_2 := @ioIx.eq_2
@[local simp] def u38_ioIx_3 := @ioIx.eq_3
@[local simp] def u38_backA_1 := @backA.eq_1
@[local simp] def u38_backA_2 := @backA.eq_2
@[local simp] def u38_backA_3 := @backA.eq_3
@[local simp] def u38_backA_4 := @backA.eq_4
@[local simp] def u38_setS_1 := @setS.eq_1
@[local simp] def u38_owLst_1 := @owLst.eq_1
@[local simp] def u38_owLst_2 := @owLst.eq_2
@[local simp] def u38_isLst_1 := @isLst.eq_1
@[local simp] def u38_isLst_2 := @isLst.eq_2

/-- the frame of law in its inner loop, both plays drawn -/
abbrev frS (sc : D) (k : Int) (ks : List Bool) (rs : List (List Int)) (f : D) (s5 s6 : S) (a b : List Bool) (s9 s10 s11 s12 : S) : Rho := [.fz sc, .fz (.int k), .fz (cD ks rs), .fz (.int ks.length), .ow false f, s5, s6, .fz (pD a), .fz (pD b), s9, s10, s11, s12, .un, .un]
section
variable {ks : List Bool} {rs : List (List Int)} (C : ClOk 6 10 ks rs) {a b : List Bool} (hab : a.length + b.length ≤ ks.length) (sc : D) (k : Int) (f : D) (s5 s6 s9 s10 s11 s12 : S)
include C hab
theorem st_left (h : okPut (some s9) = true) : asgS 9 (callP m_left [nameS 2, nameS 7]) (frS sc k ks rs f s5 s6 a b s9 s10 s11 s12) = some (.nx, frS sc k ks rs f s5 s6 a b (.fz (cD (ks.drop a.length) (leftRs rs a))) s10 s11 s12) := by
  simp [left_eq ks rs a C.small C.one, h]
theorem lab : a.length + b.length ≤ lim := by have := C.kl; unfold lim; omega
theorem st_is : ifS (orT (valT (opS fNotB [callP m_is_claim [nameS 9], cS (.bl true)])) (valT (opS fNotB [callP m_is_play [nameS 2, opS fAdd [nameS 7, nameS 8]], cS (.bl true)]))) (retS (cS (.bl false))) (nilS)
    (frS sc k ks rs f s5 s6 a b (.fz (cD (ks.drop a.length) (leftRs rs a))) s10 s11 s12) = some (.nx, frS sc k ks rs f s5 s6 a b (.fz (cD (ks.drop a.length) (leftRs rs a))) s10 s11 s12) := by
  have e1 := rest_claim C hab
  have e2 := rest_play C hab
  have l := lab C hab
  simp only [pD, ← map_app] at e2
  simp [e1, e2, fNotB, l]
theorem st_lefts : ifS (valT (opS fNe [callP m_left [nameS 9, nameS 8], callP m_left [nameS 2, opS fAdd [nameS 7, nameS 8]]])) (retS (cS (.bl false))) (nilS)
    (frS sc k ks rs f s5 s6 a b (.fz (cD (ks.drop a.length) (leftRs rs a))) s10 s11 s12) = some (.nx, frS sc k ks rs f s5 s6 a b (.fz (cD (ks.drop a.length) (leftRs rs a))) s10 s11 s12) := by
  have e1 := rest_left C hab
  have e2 := whole_left C hab
  have l := lab C hab
  simp only [pD, ← map_app] at e1 e2
  simp [e1, e2, fNe_same (plain_cD _ _), l]
theorem st_wins : ifS (valT (opS fNe [callP m_winner [nameS 9, nameS 8], callP m_winner [nameS 2, opS fAdd [nameS 7, nameS 8]]])) (retS (cS (.bl false))) (nilS)
    (frS sc k ks rs f s5 s6 a b (.fz (cD (ks.drop a.length) (leftRs rs a))) s10 s11 s12) = some (.nx, frS sc k ks rs f s5 s6 a b (.fz (cD (ks.drop a.length) (leftRs rs a))) s10 s11 s12) := by
  have e1 := rest_win C hab
  have e2 := whole_win C hab
  have l := lab C hab
  simp only [pD, ← map_app] at e1 e2
  simp [e1, e2, fNe_kD, l]
theorem st_goods : ifS (valT (opS fNe [callP m_good_picks [nameS 9, nameS 8], callP m_good_picks [nameS 2, opS fAdd [nameS 7, nameS 8]]])) (retS (cS (.bl false))) (nilS)
    (frS sc k ks rs f s5 s6 a b (.fz (cD (ks.drop a.length) (leftRs rs a))) s10 s11 s12) = some (.nx, frS sc k ks rs f s5 s6 a b (.fz (cD (ks.drop a.length) (leftRs rs a))) s10 s11 s12) := by
  have e1 := rest_good C hab
  have e2 := whole_good C hab
  have l := lab C hab
  simp only [pD, ← map_app] at e1 e2
  simp [e1, e2, fNe_same (plain_bls _), l]
theorem st_kept (h : okPut (some s10) = true) : asgS 10 (compS [13] (srcV (opS fIx [nameS 2, cS (.int 1)])) (tgt1 13) (valT (callP m_is_kept [nameS 13, opS fAdd [nameS 7, nameS 8]])) (nameS 13)) (frS sc k ks rs f s5 s6 a b s9 s10 s11 s12) =
    some (.nx, frS sc k ks rs f s5 s6 a b s9 (.ow false (.lst ((rs.filter fun r => kept r (a ++ b)).map rD))) s11 s12) := by
  have l := lab C hab
  have e := compS_pure (own := [13]) (src := srcV (opS fIx [nameS 2, cS (.int 1)])) (tgt := tgt1 13) (cond := valT (callP m_is_kept [nameS 13, opS fAdd [nameS 7, nameS 8]])) (elt := nameS 13) (ρ := frS sc k ks rs f s5 s6 a b s9 s10 s11 s12) (ρ3 := frS sc k ks rs f s5 s6 a b s9 s10 s11 s12) (o := none) rD (fun r => kept r (a ++ b)) rD rs
    (by simp; rfl) rfl (by have := C.rl; omega) rfl (fun r hr => by
      have e1 := kept_eq r (a ++ b) (C.one r hr) (by have := C.small.rr r hr; omega)
      simp only [pD, ← map_app] at e1
      cases c : kept r (a ++ b) <;> simp [e1, c, l]) rfl
  rw [asgS_fr e h]
  rfl
theorem st_gone (h : okPut (some s11) = true) : asgS 11 (compS [13] (srcV (opS fIx [nameS 2, cS (.int 1)])) (tgt1 13) (valT (callP m_is_lost [nameS 13, opS fAdd [nameS 7, nameS 8]])) (nameS 13)) (frS sc k ks rs f s5 s6 a b s9 s10 s11 s12) =
    some (.nx, frS sc k ks rs f s5 s6 a b s9 s10 (.ow false (.lst ((rs.filter fun r => lost r (a ++ b)).map rD))) s12) := by
  have l := lab C hab
  have e := compS_pure (own := [13]) (src := srcV (opS fIx [nameS 2, cS (.int 1)])) (tgt := tgt1 13) (cond := valT (callP m_is_lost [nameS 13, opS fAdd [nameS 7, nameS 8]])) (elt := nameS 13) (ρ := frS sc k ks rs f s5 s6 a b s9 s10 s11 s12) (ρ3 := frS sc k ks rs f s5 s6 a b s9 s10 s11 s12) (o := none) rD (fun r => lost r (a ++ b)) rD rs
    (by simp; rfl) rfl (by have := C.rl; omega) rfl (fun r hr => by
      have e1 := lost_eq r (a ++ b) (C.one r hr) (by have := C.small.rr r hr; omega)
      simp only [pD, ← map_app] at e1
      cases c : lost r (a ++ b) <;> simp [e1, c, l]) rfl
  rw [asgS_fr e h]
  rfl
theorem st_last (h : okPut (some s12) = true) : asgS 12 (opS fIx [callP m_left [nameS 2, opS fAdd [nameS 7, nameS 8]], cS (.int 1)]) (frS sc k ks rs f s5 s6 a b s9 s10 s11 s12) =
    some (.nx, frS sc k ks rs f s5 s6 a b s9 s10 s11 (.fz (.tup ((leftRs rs (a ++ b)).map rD)))) := by
  have e2 := whole_left C hab
  have l := lab C hab
  simp only [pD, ← map_app] at e2
  simp [e2, l, h]
theorem st_counts : ifS (orT (valT (opS fNe [opS fLen [nameS 12], opS fSub [opS fLen [opS fIx [nameS 2, cS (.int 1)]], opS fLen [nameS 10]]])) (valT (opS fNe [cntS (nameS 12) (tupS []), opS fLen [nameS 11]]))) (retS (cS (.bl false))) (nilS)
    (frS sc k ks rs f s5 s6 a b s9 (.ow false (.lst ((rs.filter fun r => kept r (a ++ b)).map rD))) (.ow false (.lst ((rs.filter fun r => lost r (a ++ b)).map rD))) (.fz (.tup ((leftRs rs (a ++ b)).map rD)))) =
    some (.nx, frS sc k ks rs f s5 s6 a b s9 (.ow false (.lst ((rs.filter fun r => kept r (a ++ b)).map rD))) (.ow false (.lst ((rs.filter fun r => lost r (a ++ b)).map rD))) (.fz (.tup ((leftRs rs (a ++ b)).map rD)))) := by
  have e1 := left_len rs (a ++ b)
  have e2 := lost_count rs (a ++ b)
  have e3 := count_nil (leftRs rs (a ++ b))
  have e4 : ((leftRs rs (a ++ b)).length : Int) = (rs.length : Int) - ((rs.filter fun r => kept r (a ++ b)).length : Int) := by omega
  have e5 : (((leftRs rs (a ++ b)).countP (fun r => r.isEmpty) : Nat) : Int) = ((rs.filter fun r => lost r (a ++ b)).length : Int) := by rw [e2]
  have c1 : cntS (nameS 12) (tupS []) (frS sc k ks rs f s5 s6 a b s9 (.ow false (.lst ((rs.filter fun r => kept r (a ++ b)).map rD))) (.ow false (.lst ((rs.filter fun r => lost r (a ++ b)).map rD))) (.fz (.tup ((leftRs rs (a ++ b)).map rD)))) =
    some (.val (.int (rs.filter fun r => lost r (a ++ b)).length), frS sc k ks rs f s5 s6 a b s9 (.ow false (.lst ((rs.filter fun r => kept r (a ++ b)).map rD))) (.ow false (.lst ((rs.filter fun r => lost r (a ++ b)).map rD))) (.fz (.tup ((leftRs rs (a ++ b)).map rD)))) := by
    rw [e2] at e3
    simp [cntS, e3]
  have t1 : valT (opS fNe [opS fLen [nameS 12], opS fSub [opS fLen [opS fIx [nameS 2, cS (.int 1)]], opS fLen [nameS 10]]]) (frS sc k ks rs f s5 s6 a b s9 (.ow false (.lst ((rs.filter fun r => kept r (a ++ b)).map rD))) (.ow false (.lst ((rs.filter fun r => lost r (a ++ b)).map rD))) (.fz (.tup ((leftRs rs (a ++ b)).map rD)))) =
    some (false, frS sc k ks rs f s5 s6 a b s9 (.ow false (.lst ((rs.filter fun r => kept r (a ++ b)).map rD))) (.ow false (.lst ((rs.filter fun r => lost r (a ++ b)).map rD))) (.fz (.tup ((leftRs rs (a ++ b)).map rD)))) := by
    simp [e4]
  have t2 : valT (opS fNe [cntS (nameS 12) (tupS []), opS fLen [nameS 11]]) (frS sc k ks rs f s5 s6 a b s9 (.ow false (.lst ((rs.filter fun r => kept r (a ++ b)).map rD))) (.ow false (.lst ((rs.filter fun r => lost r (a ++ b)).map rD))) (.fz (.tup ((leftRs rs (a ++ b)).map rD)))) =
    some (false, frS sc k ks rs f s5 s6 a b s9 (.ow false (.lst ((rs.filter fun r => kept r (a ++ b)).map rD))) (.ow false (.lst ((rs.filter fun r => lost r (a ++ b)).map rD))) (.fz (.tup ((leftRs rs (a ++ b)).map rD)))) := by
    have q : opS fNe [cntS (nameS 12) (tupS []), opS fLen [nameS 11]] (frS sc k ks rs f s5 s6 a b s9 (.ow false (.lst ((rs.filter fun r => kept r (a ++ b)).map rD))) (.ow false (.lst ((rs.filter fun r => lost r (a ++ b)).map rD))) (.fz (.tup ((leftRs rs (a ++ b)).map rD)))) = some (.val (.bl false), frS sc k ks rs f s5 s6 a b s9 (.ow false (.lst ((rs.filter fun r => kept r (a ++ b)).map rD))) (.ow false (.lst ((rs.filter fun r => lost r (a ++ b)).map rD))) (.fz (.tup ((leftRs rs (a ++ b)).map rD)))) := by
      refine opS_ok (rs := [.val (.int (rs.filter fun r => lost r (a ++ b)).length), .val (.int (rs.filter fun r => lost r (a ++ b)).length)]) ?_ rfl (by simp)
      simp only [evs, c1]
      simp
    simp only [valT, q, Option.bind_some]
  simp only [ifS, orT, t1, t2, Option.bind_some, Bool.false_eq_true, if_false, nilS]
end
theorem st_size {f : D} (hf : isFeed f) (sc : D) (k : Int) (cl : D) (many : Nat) (hm : many ≤ 100) (s5 s6 s7 s8 s9 s10 s11 s12 : S) (h6 : okPut (some s6) = true) : ∃ (size : Nat) (f' : D), size ≤ many ∧ isFeed f' ∧
    asgS 6 (callS m__law_take [true, false] [nameS 4, opS fAdd [nameS 3, cS (.int 1)]]) (inS sc k cl many f s5 s6 s7 s8 s9 s10 s11 s12) = some (.nx, inS sc k cl many f' s5 (.fz (.int size)) s7 s8 s9 s10 s11 s12) := by
  obtain ⟨r, f1, hr, hf1, e1⟩ := take_ok hf ((many : Int) + 1) (by omega) (by omega)
  refine ⟨r, f1, by omega, hf1, ?_⟩
  simp [e1, h6]
end Al
end
section
namespace Al
open PySem
@[local simp] def u39_run_1 := @run.eq_1
@[local simp] def u39_retS_1 := @retS.eq_1
@[local simp] def u39_opS_1 := @opS.eq_1
@[local simp] def u39_keepS_1 := @keepS.eq_1
@[local simp] def u39_tupS_1 := @tupS.eq_1
@[local simp] def u39_lstS_1 := @lstS.eq_1
@[local simp] def u39_mkTup_1 := @mkTup.eq_1
@[local simp] def u39_mkLst_1 := @mkLst.eq_1
@[local simp] def u39_evs_1 := @evs.eq_1
@[local simp] def u39_evs_2 := @evs.eq_2
@[local simp] def u39_peeks_1 := @peeks.eq_1
@[local simp] def u39_peeks_2 := @peeks.eq_2
@[local simp] def u39_peek_1 := @peek.eq_1
@[local simp] def u39_peek_2 := @peek.eq_2
@[local simp] def u39_peek_3 := @peek.eq_3
@[local simp] def u39_forces_1 := @forces.eq_1
@[local simp] def u39_forces_2 := @forces.eq_2
@[local simp] def u39_force_1 := @force.eq_1
@[local simp] def u39_force_2 := @force.eq_2
@[local simp] def u39_force_3 := @force.eq_3
@[local simp] def u39_forget_1 := @forget.eq_1
@[local simp] def u39_forget_2 := @forget.eq_2
@[local simp] def u39_freezes_1 := @freezes.eq_1
@[local simp] def u39_freezes_2 := @freezes.eq_2
@[local simp] def u39_freezes_3 := @freezes.eq_3
@[local simp] def u39_nameS_1 := @nameS.eq_1
@[local simp] def u39_cS_1 := @cS.eq_1
@[local simp] def u39_seqS_1 := @seqS.eq_1
@[local simp] def u39_nilS_1 := @nilS.eq_1
@[local simp] def u39_ifS_1 := @ifS.eq_1
@[local simp] def u39_asgS_1 := @asgS.eq_1
@[local simp] def u39_putS_eq := @putS_eq
@[local simp] def u39_okPut_un := @okPut_un
@[local simp] def u39_okPut_fz := @okPut_fz
@[local simp] def u39_okPut_ow := @okPut_ow
@[local simp] def u39_exprS_1 := @exprS.eq_1
@[local simp] def u39_valT_1 := @valT.eq_1
@[local simp] def u39_notT_1 := @notT.eq_1
@[local simp] def u39_yesT_1 := @yesT.eq_1
@[local simp] def u39_andT_1 := @andT.eq_1
@[local simp] def u39_orT_1 := @orT.eq_1
@[local simp] def u39_argOk_1 := @argOk.eq_1
@[local simp] def u39_argOk_2 := @argOk.eq_2
@[local simp] def u39_argOk_3 := @argOk.eq_3
@[local simp] def u39_outs_1 := @outs.eq_1
@[local simp] def u39_outs_2 := @outs.eq_2
@[local simp] def u39_outs_3 := @outs.eq_3
@[local simp] def u39_outs_4 := @outs.eq_4
@[local simp] def u39_retR_1 := @retR.eq_1
@[local simp] def u39_retR_2 := @retR.eq_2
@[local simp] def u39_vi_1 := @vi.eq_1
@[local simp] def u39_vb_1 := @vb.eq_1
@[local simp high] def u40_mkLst_nil := @mkLst_nil
@[local simp high] def u40_mkTup_nil := @mkTup_nil
@[local simp] def u41_fAdd_1 := @fAdd.eq_1
@[local simp] def u41_fAdd_2 := @fAdd.eq_2
@[local simp] def u41_fAdd_3 := @fAdd.eq_3
@[local simp] def u41_fAdd_4 := @fAdd.eq_4
@[local simp] def u41_fAdd_5 := @fAdd.eq_5
@[local simp] def u41_fSub_1 := @fSub.eq_1
@[local simp] def u41_fSub_2 := @fSub.eq_2
@[local simp] def u41_fLt_1 := @fLt.eq_1
@[local simp] def u41_fLt_2 := @fLt.eq_2
@[local simp] def u41_fLe_1 := @fLe.eq_1
@[local simp] def u41_fLe_2 := @fLe.eq_2
@[local simp] def u41_fGt_1 := @fGt.eq_1
@[local simp] def u41_fGt_2 := @fGt.eq_2
@[local simp] def u41_fGe_1 := @fGe.eq_1
@[local simp] def u41_fGe_2 := @fGe.eq_2
@[local simp] def u41_fLen_1 := @fLen.eq_1
@[local simp] def u41_fLen_2 := @fLen.eq_2
@[local simp] def u41_fLen_3 := @fLen.eq_3
@[local simp] def u41_fLen_4 := @fLen.eq_4
@[local simp] def u41_fLen_5 := @fLen.eq_5
@[local simp] def u41_fMax2_1 := @fMax2.eq_1
@[local simp] def u41_fMax2_2 := @fMax2.eq_2
@[local simp] def u41_fMin2_1 := @fMin2.eq_1
@[local simp] def u41_fMin2_2 := @fMin2.eq_2
@[local simp] def u41_fTuple_1 := @fTuple.eq_1
@[local simp] def u41_fTuple_2 := @fTuple.eq_2
@[local simp] def u41_fTuple_3 := @fTuple.eq_3
@[local simp] def u41_fList_1 := @fList.eq_1
@[local simp] def u41_fList_2 := @fList.eq_2
@[local simp] def u41_fList_3 := @fList.eq_3
@[local simp] def u41_srcV_1 := @srcV.eq_1
@[local simp] def u41_seqOf_1 := @seqOf.eq_1
@[local simp] def u41_seqOf_2 := @seqOf.eq_2
@[local simp] def u41_seqOf_3 := @seqOf.eq_3
@[local simp] def u41_maskS_1 := @maskS.eq_1
@[local simp] def u41_maskS_2 := @maskS.eq_2
@[local simp] def u41_backS_1 := @backS.eq_1
@[local simp] def u41_backS_2 := @backS.eq_2
@[local simp] def u41_wipeS_1 := @wipeS.eq_1
@[local simp] def u41_wipeS_2 := @wipeS.eq_2
@[local simp] def u41_unwipeS_1 := @unwipeS.eq_1
@[local simp] def u41_unwipeS_2 := @unwipeS.eq_2
@[local simp] def u41_freeOf_1 := @freeOf.eq_1
@[local simp] def u41_freeOf_2 := @freeOf.eq_2
@[local simp] def u41_tgt1_1 := @tgt1.eq_1
@[local simp] def u41_stepL_1 := @stepL.eq_1
@[local simp] def u41_callP_1 := @callP.eq_1
@[local simp] def u41_ifxS_1 := @ifxS.eq_1
@[local simp] def u42_fIx_t0 := @fIx_t0
@[local simp] def u42_fIx_t1 := @fIx_t1
@[local simp] def u42_fIx_l0 := @fIx_l0
@[local simp] def u42_fIx_l1 := @fIx_l1
@[local simp] def u42_fIx_tupN := @fIx_tupN
@[local simp] def u42_fIx_lstN := @fIx_lstN
@[local simp] def u42_fIx_frzN := @fIx_frzN
@[local simp] def u42_fEq_int := @fEq_int
@[local simp] def u42_fEq_bl := @fEq_bl
@[local simp] def u42_fNe_int := @fNe_int
@[local simp] def u42_fNe_bl := @fNe_bl
@[local simp] def u42_fAbs_eq := @fAbs_eq
@[local simp] def u42_fMod_1 := @fMod.eq_1
@[local simp] def u42_fMod_2 := @fMod.eq_2
@[local simp] def u42_fDiv_1 := @fDiv.eq_1
@[local simp] def u42_fDiv_2 := @fDiv.eq_2
@[local simp] def u42_fMul_1 := @fMul.eq_1
@[local simp] def u42_fMul_2 := @fMul.eq_2
@[local simp] def u42_fMul_3 := @fMul.eq_3
@[local simp] def u42_fPow_1 := @fPow.eq_1
@[local simp] def u42_fPow_2 := @fPow.eq_2
@[local simp] def u43_callS_1 := @callS.eq_1
@[local simp] def u43_frzA_1 := @frzA.eq_1
@[local simp] def u43_frzA_2 := @frzA.eq_2
@[local simp] def u43_frzA_3 := @frzA.eq_3
@[local simp] def u43_frzA_4 := @frzA.eq_4
@[local simp] def u43_argA_1 := @argA.eq_1
@[local simp] def u43_argA_2 := @argA.eq_2
@[local simp] def u43_argA_3 := @argA.eq_3
@[local simp] def u43_argA_4 := @argA.eq_4
@[local simp] def u43_argA_5 := @argA.eq_5
@[local simp] def u43_ioIx_1 := @ioIx.eq_1
@[local simp] def u43_ioIx_2 := @ioIx.eq_2
@[local simp] def u43_ioIx_3 := @ioIx.eq_3
@[local simp] def u43_backA_1 := @backA.eq_1
@[local simp] def u43_backA_2 := @backA.eq_2
@[local simp] def u43_backA_3 := @backA.eq_3
@[local simp] def u43_backA_4 := @backA.eq_4
@[local simp] def u43_setS_1 := @setS.eq_1
@[local simp] def u43_owLst_1 := @owLst.eq_1
@[local simp] def u43_owLst_2 := @owLst.eq_2
@[local simp] def u43_isLst_1 := @isLst.eq_1
@[local simp] def u43_isLst_2 := @isLst.eq_2


def okS (l : List S) : Prop := ∀ s ∈ l, okPut (some s) = true
def inner5 : MS := seqS (asgS 6 (callS m__law_take [true, false] [nameS 4, opS fAdd [nameS 3, cS (.int 1)]]))
  (seqS (asgS 7 (opS fTuple [compS [14] (srcK rngF [nameS 6]) (tgt1 14) (yesT) (opS fEq [callS m__law_take [true, false] [nameS 4, cS (.int 2)], cS (.int 1)])]))
  (seqS (asgS 8 (opS fTuple [compS [14] (srcK rngF [callS m__law_take [true, false] [nameS 4, opS fAdd [opS fSub [nameS 3, nameS 6], cS (.int 1)]]]) (tgt1 14) (yesT) (opS fEq [callS m__law_take [true, false] [nameS 4, cS (.int 2)], cS (.int 1)])]))
  (seqS (asgS 9 (callP m_left [nameS 2, nameS 7]))
  (seqS (ifS (orT (valT (opS fNotB [callP m_is_claim [nameS 9], cS (.bl true)])) (valT (opS fNotB [callP m_is_play [nameS 2, opS fAdd [nameS 7, nameS 8]], cS (.bl true)]))) (retS (cS (.bl false))) (nilS))
  (seqS (ifS (valT (opS fNe [callP m_left [nameS 9, nameS 8], callP m_left [nameS 2, opS fAdd [nameS 7, nameS 8]]])) (retS (cS (.bl false))) (nilS))
  (seqS (ifS (valT (opS fNe [callP m_winner [nameS 9, nameS 8], callP m_winner [nameS 2, opS fAdd [nameS 7, nameS 8]]])) (retS (cS (.bl false))) (nilS))
  (seqS (ifS (valT (opS fNe [callP m_good_picks [nameS 9, nameS 8], callP m_good_picks [nameS 2, opS fAdd [nameS 7, nameS 8]]])) (retS (cS (.bl false))) (nilS))
  (seqS (asgS 10 (compS [13] (srcV (opS fIx [nameS 2, cS (.int 1)])) (tgt1 13) (valT (callP m_is_kept [nameS 13, opS fAdd [nameS 7, nameS 8]])) (nameS 13)))
  (seqS (asgS 11 (compS [13] (srcV (opS fIx [nameS 2, cS (.int 1)])) (tgt1 13) (valT (callP m_is_lost [nameS 13, opS fAdd [nameS 7, nameS 8]])) (nameS 13)))
  (seqS (asgS 12 (opS fIx [callP m_left [nameS 2, opS fAdd [nameS 7, nameS 8]], cS (.int 1)]))
  (ifS (orT (valT (opS fNe [opS fLen [nameS 12], opS fSub [opS fLen [opS fIx [nameS 2, cS (.int 1)]], opS fLen [nameS 10]]])) (valT (opS fNe [cntS (nameS 12) (tupS []), opS fLen [nameS 11]]))) (retS (cS (.bl false))) (nilS))))))))))))
def outer5 : MS := seqS (asgS 2 (callF m__law_claim (callP m__law_feed [nameS 0, nameS 1]) [cS (.int 6), cS (.int 10)]))
  (seqS (asgS 3 (opS fLen [opS fIx [nameS 2, cS (.int 0)]]))
  (seqS (asgS 4 (callP m__law_feed [nameS 0, opS fAdd [nameS 1, cS (.int 1)]]))
  (forS (srcK rngF [cS (.int 2)]) (tgt1 5) (seqS (asgS 6 (callS m__law_take [true, false] [nameS 4, opS fAdd [nameS 3, cS (.int 1)]]))
  (seqS (asgS 7 (opS fTuple [compS [14] (srcK rngF [nameS 6]) (tgt1 14) (yesT) (opS fEq [callS m__law_take [true, false] [nameS 4, cS (.int 2)], cS (.int 1)])]))
  (seqS (asgS 8 (opS fTuple [compS [14] (srcK rngF [callS m__law_take [true, false] [nameS 4, opS fAdd [opS fSub [nameS 3, nameS 6], cS (.int 1)]]]) (tgt1 14) (yesT) (opS fEq [callS m__law_take [true, false] [nameS 4, cS (.int 2)], cS (.int 1)])]))
  (seqS (asgS 9 (callP m_left [nameS 2, nameS 7]))
  (seqS (ifS (orT (valT (opS fNotB [callP m_is_claim [nameS 9], cS (.bl true)])) (valT (opS fNotB [callP m_is_play [nameS 2, opS fAdd [nameS 7, nameS 8]], cS (.bl true)]))) (retS (cS (.bl false))) (nilS))
  (seqS (ifS (valT (opS fNe [callP m_left [nameS 9, nameS 8], callP m_left [nameS 2, opS fAdd [nameS 7, nameS 8]]])) (retS (cS (.bl false))) (nilS))
  (seqS (ifS (valT (opS fNe [callP m_winner [nameS 9, nameS 8], callP m_winner [nameS 2, opS fAdd [nameS 7, nameS 8]]])) (retS (cS (.bl false))) (nilS))
  (seqS (ifS (valT (opS fNe [callP m_good_picks [nameS 9, nameS 8], callP m_good_picks [nameS 2, opS fAdd [nameS 7, nameS 8]]])) (retS (cS (.bl false))) (nilS))
  (seqS (asgS 10 (compS [13] (srcV (opS fIx [nameS 2, cS (.int 1)])) (tgt1 13) (valT (callP m_is_kept [nameS 13, opS fAdd [nameS 7, nameS 8]])) (nameS 13)))
  (seqS (asgS 11 (compS [13] (srcV (opS fIx [nameS 2, cS (.int 1)])) (tgt1 13) (valT (callP m_is_lost [nameS 13, opS fAdd [nameS 7, nameS 8]])) (nameS 13)))
  (seqS (asgS 12 (opS fIx [callP m_left [nameS 2, opS fAdd [nameS 7, nameS 8]], cS (.int 1)]))
  (ifS (orT (valT (opS fNe [opS fLen [nameS 12], opS fSub [opS fLen [opS fIx [nameS 2, cS (.int 1)]], opS fLen [nameS 10]]])) (valT (opS fNe [cntS (nameS 12) (tupS []), opS fLen [nameS 11]]))) (retS (cS (.bl false))) (nilS))))))))))))))))
theorem inner_ok {ks : List Bool} {rs : List (List Int)} (C : ClOk 6 10 ks rs) (sc : D) (k : Int) {f : D} (hf : isFeed f) (s5 s6 s7 s8 s9 s10 s11 s12 : S) (h : okS [s6, s7, s8, s9, s10, s11, s12]) :
    ∃ (f' : D) (t6 t7 t8 t9 t10 t11 t12 : S), isFeed f' ∧ okS [t6, t7, t8, t9, t10, t11, t12] ∧
      inner5 (inS sc k (cD ks rs) ks.length f s5 s6 s7 s8 s9 s10 s11 s12) = some (.nx, inS sc k (cD ks rs) ks.length f' s5 t6 t7 t8 t9 t10 t11 t12) := by
  have hk := C.kl
  obtain ⟨size, f1, hs, hf1, e1⟩ := st_size hf sc k (cD ks rs) ks.length (by omega) s5 s6 s7 s8 s9 s10 s11 s12 (h _ (by simp))
  obtain ⟨a, f2, ha, hf2, e2⟩ := law_first hf1 sc k (cD ks rs) ks.length size (by omega) s5 s7 s8 s9 s10 s11 s12 (h _ (by simp))
  obtain ⟨b, f3, hb, hf3, e3⟩ := law_second hf2 sc k (cD ks rs) ks.length size (by omega) hs s5 (.fz (pD a)) s8 s9 s10 s11 s12 (h _ (by simp))
  have hab : a.length + b.length ≤ ks.length := by omega
  refine ⟨f3, .fz (.int size), .fz (pD a), .fz (pD b), .fz (cD (ks.drop a.length) (leftRs rs a)), .ow false (.lst ((rs.filter fun r => kept r (a ++ b)).map rD)), .ow false (.lst ((rs.filter fun r => lost r (a ++ b)).map rD)), .fz (.tup ((leftRs rs (a ++ b)).map rD)), hf3, ?_, ?_⟩
  · intro s hs
    simp only [List.mem_cons, List.not_mem_nil, or_false] at hs
    rcases hs with rfl | rfl | rfl | rfl | rfl | rfl | rfl <;> rfl
  · unfold inner5
    rw [seq_nx e1, seq_nx e2, seq_nx e3, seq_nx (st_left C hab sc k f3 s5 _ s9 s10 s11 s12 (h _ (by simp))), seq_nx (st_is C hab sc k f3 s5 _ s10 s11 s12), seq_nx (st_lefts C hab sc k f3 s5 _ s10 s11 s12), seq_nx (st_wins C hab sc k f3 s5 _ s10 s11 s12), seq_nx (st_goods C hab sc k f3 s5 _ s10 s11 s12),
      seq_nx (st_kept C hab sc k f3 s5 _ _ s10 s11 s12 (h _ (by simp))), seq_nx (st_gone C hab sc k f3 s5 _ _ _ s11 s12 (h _ (by simp))), seq_nx (st_last C hab sc k f3 s5 _ _ _ _ s12 (h _ (by simp))), st_counts C hab sc k f3 s5]
theorem inner_loop {ks : List Bool} {rs : List (List Int)} (C : ClOk 6 10 ks rs) (sc : D) (k : Int) {f : D} (hf : isFeed f) (s5 s6 s7 s8 s9 s10 s11 s12 : S) (h : okS [s5, s6, s7, s8, s9, s10, s11, s12]) :
    ∃ (f' : D) (t5 t6 t7 t8 t9 t10 t11 t12 : S), okS [t5, t6, t7, t8, t9, t10, t11, t12] ∧
      forS (srcK rngF [cS (.int 2)]) (tgt1 5) inner5 (inS sc k (cD ks rs) ks.length f s5 s6 s7 s8 s9 s10 s11 s12) = some (.nx, inS sc k (cD ks rs) ks.length f' t5 t6 t7 t8 t9 t10 t11 t12) := by
  obtain ⟨ρL, eL, f4, t5, t6, t7, t8, t9, t10, t11, t12, hf4, ht, rfl⟩ := loopS_inv (tgt := tgt1 5) (body := inner5)
    (fun _ ρ => ∃ (f : D) (s5 s6 s7 s8 s9 s10 s11 s12 : S), isFeed f ∧ okS [s5, s6, s7, s8, s9, s10, s11, s12] ∧ ρ = inS sc k (cD ks rs) ks.length f s5 s6 s7 s8 s9 s10 s11 s12) (rngD 0 2) 0 _ ⟨f, s5, s6, s7, s8, s9, s10, s11, s12, hf, h, rfl⟩ (by
    rintro j x hx ρ ⟨f, s5, s6, s7, s8, s9, s10, s11, s12, hf, h, rfl⟩
    obtain ⟨f', t6, t7, t8, t9, t10, t11, t12, hf', ht, e⟩ := inner_ok C sc k hf (.fz x) s6 s7 s8 s9 s10 s11 s12 fun s hs => h s (List.mem_cons_of_mem _ hs)
    refine ⟨_, _, ?_, e, f', .fz x, t6, t7, t8, t9, t10, t11, t12, hf', ?_, rfl⟩
    · have := h s5 (by simp)
      simp [this]
    · intro s hs
      rcases List.mem_cons.mp hs with rfl | hs
      · rfl
      · exact ht s hs)
  exact ⟨f4, t5, t6, t7, t8, t9, t10, t11, t12, ht, forS_ok (srcK_ok (ms := [cS (.int 2)]) (rs := [.val (.int 2)]) (ds := [.int 2]) rfl rfl (rngF_nat 2 (by decide))) eL rfl⟩
abbrev ouS (sc : D) (s1 s2 s3 s4 s5 s6 s7 s8 s9 s10 s11 s12 : S) : Rho := [.fz sc, s1, s2, s3, s4, s5, s6, s7, s8, s9, s10, s11, s12, .un, .un]
theorem outer_ok (ns : List Int) (k : Nat) (s2 s3 s4 s5 s6 s7 s8 s9 s10 s11 s12 : S) (h : okS [s2, s3, s4, s5, s6, s7, s8, s9, s10, s11, s12]) :
    ∃ (t2 t3 t4 t5 t6 t7 t8 t9 t10 t11 t12 : S), okS [t2, t3, t4, t5, t6, t7, t8, t9, t10, t11, t12] ∧
      outer5 (ouS (.frz (ns.map .int)) (.fz (.int k)) s2 s3 s4 s5 s6 s7 s8 s9 s10 s11 s12) = some (.nx, ouS (.frz (ns.map .int)) (.fz (.int k)) t2 t3 t4 t5 t6 t7 t8 t9 t10 t11 t12) := by
  obtain ⟨f0, hf0, e0⟩ := feed_ok ns k
  obtain ⟨ks, rs, f1, C, hf1, e1⟩ := claim_ok hf0 6 10 (by decide) (by decide) (by decide)
  obtain ⟨f2, hf2, e2⟩ := feed_ok ns (k + 1)
  have h2 := h s2 (by simp)
  have h3 := h s3 (by simp)
  have h4 := h s4 (by simp)
  have q1 : asgS 2 (callF m__law_claim (callP m__law_feed [nameS 0, nameS 1]) [cS (.int 6), cS (.int 10)]) (ouS (.frz (ns.map .int)) (.fz (.int k)) s2 s3 s4 s5 s6 s7 s8 s9 s10 s11 s12) =
      some (.nx, ouS (.frz (ns.map .int)) (.fz (.int k)) (.fz (cD ks rs)) s3 s4 s5 s6 s7 s8 s9 s10 s11 s12) := by
    have e1 : m__law_claim [.ow true f0, .fz (.int 6), .fz (.int 10)] = some (.val (cD ks rs), [.ow true f1, .un, .un]) := e1
    have c : callF m__law_claim (callP m__law_feed [nameS 0, nameS 1]) [cS (.int 6), cS (.int 10)] (ouS (.frz (ns.map .int)) (.fz (.int k)) s2 s3 s4 s5 s6 s7 s8 s9 s10 s11 s12) = some (.val (cD ks rs), ouS (.frz (ns.map .int)) (.fz (.int k)) s2 s3 s4 s5 s6 s7 s8 s9 s10 s11 s12) := by
      simp [callF, e0, e1]
    rw [asgS_val c h2]
    rfl
  have q2 : asgS 3 (opS fLen [opS fIx [nameS 2, cS (.int 0)]]) (ouS (.frz (ns.map .int)) (.fz (.int k)) (.fz (cD ks rs)) s3 s4 s5 s6 s7 s8 s9 s10 s11 s12) =
      some (.nx, ouS (.frz (ns.map .int)) (.fz (.int k)) (.fz (cD ks rs)) (.fz (.int ks.length)) s4 s5 s6 s7 s8 s9 s10 s11 s12) := by
    simp [h3]
  have q3 : asgS 4 (callP m__law_feed [nameS 0, opS fAdd [nameS 1, cS (.int 1)]]) (ouS (.frz (ns.map .int)) (.fz (.int k)) (.fz (cD ks rs)) (.fz (.int ks.length)) s4 s5 s6 s7 s8 s9 s10 s11 s12) =
      some (.nx, inS (.frz (ns.map .int)) k (cD ks rs) ks.length f2 s5 s6 s7 s8 s9 s10 s11 s12) := by
    have e2 : m__law_feed [.fz (.frz (ns.map .int)), .fz (.int ((k : Int) + 1))] = some (.fr f2, [.un, .un]) := e2
    simp [e2, h4]
  obtain ⟨f', t5, t6, t7, t8, t9, t10, t11, t12, ht, eL⟩ := inner_loop C (.frz (ns.map .int)) k hf2 s5 s6 s7 s8 s9 s10 s11 s12 fun s hs => h s (List.mem_cons_of_mem _ (List.mem_cons_of_mem _ (List.mem_cons_of_mem _ hs)))
  refine ⟨.fz (cD ks rs), .fz (.int ks.length), .ow false f', t5, t6, t7, t8, t9, t10, t11, t12, ?_, ?_⟩
  · intro s hs
    rcases List.mem_cons.mp hs with rfl | hs
    · rfl
    rcases List.mem_cons.mp hs with rfl | hs
    · rfl
    rcases List.mem_cons.mp hs with rfl | hs
    · rfl
    exact ht s hs
  · unfold outer5
    rw [seq_nx q1, seq_nx q2, seq_nx q3]
    exact eL
theorem rng3_ok (n : Nat) : ∃ m : Nat, rngF3 [.int 0, .int (if (if (n : Int) < 6 then (n : Int) else 6) > 2 then (if (n : Int) < 6 then (n : Int) else 6) else 2), .int 2] = some (rngCD 0 2 m) := by
  generalize hz : (if (if (n : Int) < 6 then (n : Int) else 6) > 2 then (if (n : Int) < 6 then (n : Int) else 6) else 2) = z
  have hz1 : 0 ≤ z ∧ z ≤ 6 := by
    subst hz
    split <;> split <;> omega
  have h1 : inB 0 = true := by decide
  have h2 : inB z = true := inB_of (by omega) (by omega)
  refine ⟨cntC 0 z 2, ?_⟩
  show (if (inB 0 && inB z && decide ((2 : Int) ≠ 0 ∧ (2 : Int).natAbs < 1073741824)) = true then some (rngCD 0 2 (cntC 0 z 2)) else none) = _
  rw [h1, h2]
  rfl
theorem plain_law : ∀ ns : List Int, ns.length ≤ 63 → lawF m_law ns := fun ns _ => by
  obtain ⟨m, e3⟩ := rng3_ok ns.length
  obtain ⟨ρL, eL, j, t1, t2, t3, t4, t5, t6, t7, t8, t9, t10, t11, t12, ht, rfl⟩ := loopS_inv (tgt := tgt1 1) (body := outer5)
    (fun _ ρ => ∃ (j : Nat) (s1 s2 s3 s4 s5 s6 s7 s8 s9 s10 s11 s12 : S), okS [s1, s2, s3, s4, s5, s6, s7, s8, s9, s10, s11, s12] ∧ ρ = ouS (.frz (ns.map .int)) s1 s2 s3 s4 s5 s6 s7 s8 s9 s10 s11 s12) (rngCD 0 2 m) 0
    (ouS (.frz (ns.map .int)) .un .un .un .un .un .un .un .un .un .un .un .un) ⟨0, .un, .un, .un, .un, .un, .un, .un, .un, .un, .un, .un, .un, by intro s hs; simp at hs; subst hs; rfl, rfl⟩ (by
    rintro j x hx ρ ⟨_, s1, s2, s3, s4, s5, s6, s7, s8, s9, s10, s11, s12, h, rfl⟩
    obtain ⟨i, rfl⟩ : ∃ i : Nat, x = .int i := by
      unfold rngCD at hx
      rw [List.getElem?_map, Option.map_eq_some_iff] at hx
      obtain ⟨i, _, rfl⟩ := hx
      refine ⟨i * 2, ?_⟩
      congr 1
      omega
    obtain ⟨t2, t3, t4, t5, t6, t7, t8, t9, t10, t11, t12, ht, e⟩ := outer_ok ns i s2 s3 s4 s5 s6 s7 s8 s9 s10 s11 s12 fun s hs => h s (List.mem_cons_of_mem _ hs)
    refine ⟨_, _, ?_, e, 0, .fz (.int i), t2, t3, t4, t5, t6, t7, t8, t9, t10, t11, t12, ?_, rfl⟩
    · have := h s1 (by simp)
      simp [this]
    · intro s hs
      rcases List.mem_cons.mp hs with rfl | hs
      · rfl
      · exact ht s hs)
  have q : srcK rngF3 [cS (.int 0), opS fMax2 [cS (.int 2), opS fMin2 [cS (.int 6), opS fLen [nameS 0]]], cS (.int 2)] (ouS (.frz (ns.map .int)) .un .un .un .un .un .un .un .un .un .un .un .un) = some (rngCD 0 2 m, none, ouS (.frz (ns.map .int)) .un .un .un .un .un .un .un .un .un .un .un .un) := by
    refine srcK_ok (rs := [.val (.int 0), .val (.int (if (if (ns.length : Int) < 6 then (ns.length : Int) else 6) > 2 then (if (ns.length : Int) < 6 then (ns.length : Int) else 6) else 2)), .val (.int 2)]) ?_ rfl e3
    simp
  have eF := forS_ok q eL rfl
  refine ⟨[.un], ?_⟩
  have hrun : ∀ (body : MS) (s : S) (ρ : Rho), body (ouS (.frz (ns.map .int)) .un .un .un .un .un .un .un .un .un .un .un .un) = some (.rt (.val (.bl true)), s :: ρ) → run 1 15 body [.fz (.frz (ns.map .int))] = some (.val (.bl true), [.un]) := fun body s ρ h => by
    simp [h]
  exact hrun _ _ _ ((seq_nx (b := retS (cS (.bl true))) eF).trans rfl)
end Al
end
section
namespace Al
open PySem PySem.Spec PyProof.Rows L2
/-! the defs do what their meanings say, printed by gen.py -/
def top (i : Nat) : Stmt := PySem.Challenge.pw_allsome_k05_whole_left_and_left.main.body.getD i (.Pass ⟨0, 0, 0, 0⟩)
abbrev s_is_whole : Stmt := top 4
abbrev s_is_kinds : Stmt := top 5
abbrev s_is_row : Stmt := top 6
abbrev s_is_claim : Stmt := top 7
abbrev s_is_play : Stmt := top 8
abbrev s_is_right : Stmt := top 9
abbrev s_is_open : Stmt := top 10
abbrev s_is_kept : Stmt := top 11
abbrev s_is_lost : Stmt := top 12
abbrev s_all_kept : Stmt := top 13
abbrev s_nearer : Stmt := top 14
abbrev s_left : Stmt := top 15
abbrev s_other_of : Stmt := top 17
abbrev s_winner : Stmt := top 18
abbrev s_good_picks : Stmt := top 19
abbrev s__law_feed : Stmt := top 21
abbrev s__law_take : Stmt := top 22
abbrev s__law_pick : Stmt := top 23
abbrev s__law_whole : Stmt := top 24
abbrev s__law_row : Stmt := top 25
abbrev s__law_claim : Stmt := top 26
abbrev s_law : Stmt := top 27
structure Tx (K : PySem.W.Frag) (mg : Str → Option Value) : Prop where
  d__law_take : Df K mg "_law_take" ["feed", "many"] s__law_take
  d__law_pick : Df K mg "_law_pick" ["feed", "some"] s__law_pick
  d__law_row : Df K mg "_law_row" ["feed", "many"] s__law_row
  d__law_claim : Df K mg "_law_claim" ["feed", "most", "rows"] s__law_claim
  d__law_feed : Df K mg "_law_feed" ["script", "k"] s__law_feed
  d_is_right : Df K mg "is_right" ["literal", "play"] s_is_right
  d_is_kept : Df K mg "is_kept" ["row", "play"] s_is_kept
  d_nearer : Df K mg "nearer" ["literal", "many"] s_nearer
  d_is_open : Df K mg "is_open" ["literal", "play"] s_is_open
  d_left : Df K mg "left" ["claim", "play"] s_left
  d_all_kept : Df K mg "all_kept" ["claim", "play"] s_all_kept
  d_other_of : Df K mg "other_of" ["side"] s_other_of
  d_is_lost : Df K mg "is_lost" ["row", "play"] s_is_lost
  d_winner : Df K mg "winner" ["claim", "play"] s_winner
  d_good_picks : Df K mg "good_picks" ["claim", "play"] s_good_picks
  d_is_kinds : Df K mg "is_kinds" ["thing", "most"] s_is_kinds
  d_is_whole : Df K mg "is_whole" ["thing"] s_is_whole
  d_is_row : Df K mg "is_row" ["thing", "many"] s_is_row
  d_is_claim : Df K mg "is_claim" ["thing"] s_is_claim
  d_is_play : Df K mg "is_play" ["claim", "thing"] s_is_play
  z_abs : mg "abs" = none
  z_all : mg "all" = none
  z_any : mg "any" = none
  z_bool : mg "bool" = none
  z_int : mg "int" = none
  z_isinstance : mg "isinstance" = none
  z_len : mg "len" = none
  z_list : mg "list" = none
  z_max : mg "max" = none
  z_min : mg "min" = none
  z_range : mg "range" = none
  z_set : mg "set" = none
  z_sorted : mg "sorted" = none
  z_str : mg "str" = none
  z_tuple : mg "tuple" = none
  g_KINDS : ∃ a, mg "KINDS" = some (.ref a) ∧ KT K a ((["all", "some"] : List Str).map V.str)
  g_MOST_NAMES : ∃ t, mg "MOST_NAMES" = some (.int 8 t)
  g_MOST_ROWS : ∃ t, mg "MOST_ROWS" = some (.int 20 t)
section
variable {P : Program} {w : World} {K : PySem.W.Frag} {mg : Str → Option Value} {base : Heap}
theorem sc__law_take : FnScope ["feed", "many", "found"] ["feed", "many"] (defScope s__law_take) := ⟨rfl, rfl, rfl, by decide +kernel, rfl, by decide +kernel, by decide +kernel⟩
theorem cal__law_take (T : Tx K mg) : Cal P w K mg base "_law_take" ["feed", "many"] 1 m__law_take := .mk T.d__law_take sc__law_take fun f cdv A outer s H E hr => by
    have sc := sc__law_take
    exact xs_cons (s_if (t_cmp o_gt (x_ix o_ix (x_name 0) (x_int)) (x_int) (by first | rfl | with_unfolding_all rfl)) (xs_cons (s_set sc.nd (i := 2) rfl (by first | exact .inl rfl | exact .inr rfl) (x_bin o_mod (x_ix o_ix (x_name 0) (x_int)) (x_name 1)))
      (xs_cons (s_setitem (i := 0) (x_bin o_div (x_ix o_ix (x_name 0) (x_int)) (x_name 1)) (x_int))
      (xs_one (s_ret (x_name 2))))) (xs_nil))
      (xs_cons (s_setitem (i := 0) (x_bin o_mod (x_bin o_add (x_bin o_mul (x_ix o_ix (x_name 0) (x_int)) (x_int)) (x_int)) (x_int)) (x_int))
      (xs_one (s_ret (x_bin o_mod (x_bin o_div (x_ix o_ix (x_name 0) (x_int)) (x_int)) (x_name 1)))))
theorem sc__law_pick : FnScope ["feed", "some"] ["feed", "some"] (defScope s__law_pick) := ⟨rfl, rfl, rfl, by decide +kernel, rfl, by decide +kernel, by decide +kernel⟩
theorem cal__law_pick (T : Tx K mg) : Cal P w K mg base "_law_pick" ["feed", "some"] 2 m__law_pick := .mk T.d__law_pick sc__law_pick fun f cdv A outer s H E hr => by
    have sc := sc__law_pick
    exact xs_one (s_ret (x_ix o_ix (x_name 1) (xc_S [true, false] (cal__law_take T) hr rfl (xa_cons (x_name 0) (xa_cons (x_callB c_len rfl T.z_len boot_len' (xa_cons (x_name 1) xa_nil)) xa_nil)))))
theorem sc__law_row : FnScope ["feed", "many", "sizes", "size", "names", "found", "turn", "name"] ["feed", "many"] (defScope s__law_row) := ⟨rfl, rfl, rfl, by decide +kernel, rfl, by decide +kernel, by decide +kernel⟩
theorem cal__law_row (T : Tx K mg) : Cal P w K mg base "_law_row" ["feed", "many"] 3 m__law_row := .mk T.d__law_row sc__law_row fun f cdv A outer s H E hr => by
    have sc := sc__law_row
    exact xs_cons (s_set sc.nd (i := 2) rfl (by first | exact .inl rfl | exact .inr rfl) (x_lst (xa_cons (x_int) (xa_cons (x_int) (xa_cons (x_int) (xa_cons (x_int) (xa_cons (x_int) (xa_cons (x_int) (xa_cons (x_int) (xa_cons (x_int) (xa_cons (x_int) (xa_cons (x_bin o_add (x_int) (xc_S [true, false] (cal__law_take T) hr rfl (xa_cons (x_name 0) (xa_cons (x_int) xa_nil)))) (xa_cons (x_int) (xa_cons (x_bin o_mul (x_int) (x_callTy c_int rfl T.z_int boot_int' (xa_cons (x_cmp o_gt (xc_S [true, false] (cal__law_take T) hr rfl (xa_cons (x_name 0) (xa_cons (x_int) xa_nil))) (x_int) (by first | rfl | with_unfolding_all rfl)) xa_nil))) xa_nil))))))))))))))
      (xs_cons (s_set sc.nd (i := 3) rfl (by first | exact .inl rfl | exact .inr rfl) (x_callB (c_min2 rfl) rfl T.z_min boot_min' (xa_cons (x_name 1) (xa_cons (xc_S [true, false] (cal__law_pick T) hr rfl (xa_cons (x_name 0) (xa_cons (x_name 2) xa_nil))) xa_nil))))
      (xs_cons (s_set sc.nd (i := 4) rfl (by first | exact .inl rfl | exact .inr rfl) (x_listRng2 rfl (x_int) (x_bin o_add (x_name 1) (x_int)) rfl rfl rfl T.z_list rfl T.z_range))
      (xs_cons (s_set sc.nd (i := 5) rfl (by first | exact .inl rfl | exact .inr rfl) (x_lst xa_nil))
      (xs_cons (s_for PassesOwn.never rfl (i_rng1 rfl T.z_range (xa_cons (x_name 3) xa_nil)) (g_name sc.nd (i := 6) rfl (by first | exact .inl rfl | exact .inr rfl)) (xs_one (s_expr (x_mut (i := 5) PySem.F.slot_list_append PySem.F.type_list_append mt_append r_append (xa_cons (x_mut (i := 4) PySem.F.slot_list_pop PySem.F.type_list_pop mt_popAt r_pop (xa_cons (xc_S [true, false] (cal__law_take T) hr rfl (xa_cons (x_name 0) (xa_cons (x_callB c_len rfl T.z_len boot_len' (xa_cons (x_name 4) xa_nil)) xa_nil))) xa_nil)) xa_nil)))))
      (xs_one (s_ret (x_callTy c_tuple rfl T.z_tuple boot_tuple' (xa_cons (x_comp (own := [("name", 7)]) rfl sc.nd (i_seq (x_callB c_sortI rfl T.z_sorted boot_sorted' (xa_cons (x_name 5) xa_nil))) (blkOk_by (by kernel_rfl)) (fun _ _ _ _ _ => g_name sc.nd (i := 7) rfl (by first | exact .inl rfl | exact .inr rfl)) (fun _ _ _ _ _ => ts_nil) (fun _ _ _ _ _ => x_ix o_ix (x_lst (xa_cons (x_name 7) (xa_cons (x_un o_neg (x_name 7)) xa_nil))) (xc_S [true, false] (cal__law_take T) hr rfl (xa_cons (x_name 0) (xa_cons (x_int) xa_nil))))) xa_nil))))))))
theorem sc__law_claim : FnScope ["feed", "most", "rows", "many", "way", "kinds", "size", "found", "k"] ["feed", "most", "rows"] (defScope s__law_claim) := ⟨rfl, rfl, rfl, by decide +kernel, rfl, by decide +kernel, by decide +kernel⟩
theorem cal__law_claim (T : Tx K mg) : Cal P w K mg base "_law_claim" ["feed", "most", "rows"] 4 m__law_claim := .mk T.d__law_claim sc__law_claim fun f cdv A outer s H E hr => by
    have sc := sc__law_claim
    have hu := hr.units
    have hu5 := hu5_of hr
    exact xs_cons (s_set sc.nd (i := 3) rfl (by first | exact .inl rfl | exact .inr rfl) (xc_S [true, false] (cal__law_pick T) hr rfl (xa_cons (x_name 0) (xa_cons (x_lst (xa_cons (x_name 1) (xa_cons (x_bin o_sub (x_name 1) (x_int)) (xa_cons (x_name 1) (xa_cons (x_bin o_sub (x_name 1) (x_int)) (xa_cons (x_name 1) (xa_cons (xc_S [true, false] (cal__law_take T) hr rfl (xa_cons (x_name 0) (xa_cons (x_bin o_add (x_name 1) (x_int)) xa_nil))) xa_nil))))))) xa_nil))))
      (xs_cons (s_set sc.nd (i := 4) rfl (by first | exact .inl rfl | exact .inr rfl) (xc_S [true, false] (cal__law_take T) hr rfl (xa_cons (x_name 0) (xa_cons (x_int) xa_nil))))
      (xs_cons (s_setLc (own := [("k", 8)]) rfl sc.nd (i := 5) rfl rfl (by rfl) (i_rng1 rfl T.z_range (xa_cons (x_name 3) xa_nil)) (blkOk_by (by kernel_rfl)) (fun _ _ _ _ _ => g_name sc.nd (i := 8) rfl (by first | exact .inl rfl | exact .inr rfl)) (fun _ _ _ _ _ => ts_nil) (fun _ _ _ _ _ => xc_S [true, false] (cal__law_pick T) hr rfl (xa_cons (x_name 0) (xa_cons (x_lst (xa_cons (x_str) (xa_cons (x_str) xa_nil))) xa_nil))))
      (xs_cons (s_if (t_cmp (o_eq hu) (x_name 4) (x_int) (by first | rfl | with_unfolding_all rfl)) (xs_one (s_setLc (own := [("k", 8)]) rfl sc.nd (i := 5) rfl rfl (by rfl) (i_rng1 rfl T.z_range (xa_cons (x_name 3) xa_nil)) (blkOk_by (by kernel_rfl)) (fun _ _ _ _ _ => g_name sc.nd (i := 8) rfl (by first | exact .inl rfl | exact .inr rfl)) (fun _ _ _ _ _ => ts_nil) (fun _ _ _ _ _ => x_ix o_ix (x_lst (xa_cons (x_str) (xa_cons (x_str) xa_nil))) (x_bin o_mod (x_name 8) (x_int))))) (xs_nil))
      (xs_cons (s_set sc.nd (i := 6) rfl (by first | exact .inl rfl | exact .inr rfl) (xc_S [true, false] (cal__law_pick T) hr rfl (xa_cons (x_name 0) (xa_cons (x_lst (xa_cons (x_name 3) (xa_cons (x_bin o_add (x_name 3) (x_bin o_div (x_name 3) (x_int))) (xa_cons (x_bin o_mul (x_int) (x_name 3)) (xa_cons (x_bin o_add (x_bin o_div (x_name 3) (x_int)) (x_int)) (xa_cons (xc_S [true, false] (cal__law_take T) hr rfl (xa_cons (x_name 0) (xa_cons (x_bin o_add (x_name 2) (x_int)) xa_nil))) (xa_cons (x_int) xa_nil))))))) xa_nil))))
      (xs_cons (s_setLc (own := [("k", 8)]) rfl sc.nd (i := 7) rfl rfl (by rfl) (i_rng1 rfl T.z_range (xa_cons (x_callB (c_min2 rfl) rfl T.z_min boot_min' (xa_cons (x_name 2) (xa_cons (x_name 6) xa_nil))) xa_nil)) (blkOk_by (by kernel_rfl)) (fun _ _ _ _ _ => g_name sc.nd (i := 8) rfl (by first | exact .inl rfl | exact .inr rfl)) (fun _ _ _ _ _ => ts_nil) (fun _ _ _ _ _ => xc_S [true, false] (cal__law_row T) hr rfl (xa_cons (x_name 0) (xa_cons (x_name 3) xa_nil))))
      (xs_cons (s_if (t_bool (w_and (t_cmp (o_ne hu) (x_name 7) (x_lst xa_nil) (by first | rfl | with_unfolding_all rfl)) (w_and1 (t_cmp (o_eq hu) (xc_S [true, false] (cal__law_take T) hr rfl (xa_cons (x_name 0) (xa_cons (x_int) xa_nil))) (x_int) (by first | rfl | with_unfolding_all rfl))))) (xs_one (s_expr (x_mut (i := 7) PySem.F.slot_list_append PySem.F.type_list_append mt_append r_append (xa_cons (xc_S [true, true] (cal__law_pick T) hr rfl (xa_cons (x_name 0) (xa_cons (x_name 7) xa_nil))) xa_nil)))) (xs_nil))
      (xs_one (s_ret (x_tup (xa_cons (x_callTy c_tuple rfl T.z_tuple boot_tuple' (xa_cons (x_name 5) xa_nil)) (xa_cons (x_callTy c_tuple rfl T.z_tuple boot_tuple' (xa_cons (x_slHi (x_name 7) (x_name 2)) xa_nil)) xa_nil)))))))))))
theorem sc__law_feed : FnScope ["script", "k", "cell", "digits", "start"] ["script", "k"] (defScope s__law_feed) := ⟨rfl, rfl, rfl, by decide +kernel, rfl, by decide +kernel, by decide +kernel⟩
theorem cal__law_feed (T : Tx K mg) : Cal P w K mg base "_law_feed" ["script", "k"] 1 m__law_feed := .mk T.d__law_feed sc__law_feed fun f cdv A outer s H E hr => by
    have sc := sc__law_feed
    exact xs_cons (s_set sc.nd (i := 2) rfl (by first | exact .inl rfl | exact .inr rfl) (x_int))
      (xs_cons (s_if (t_cmp o_lt (x_name 1) (x_callB c_len rfl T.z_len boot_len' (xa_cons (x_name 0) xa_nil)) (by first | rfl | with_unfolding_all rfl)) (xs_one (s_set sc.nd (i := 2) rfl (by first | exact .inl rfl | exact .inr rfl) (x_ix o_ix (x_name 0) (x_name 1)))) (xs_nil))
      (xs_cons (s_set sc.nd (i := 3) rfl (by first | exact .inl rfl | exact .inr rfl) (x_int))
      (xs_cons (s_if (t_cmp o_ge (x_name 2) (x_bin o_pow (x_int) (x_int)) (by first | rfl | with_unfolding_all rfl)) (xs_one (s_set sc.nd (i := 3) rfl (by first | exact .inl rfl | exact .inr rfl) (x_bin o_sub (x_name 2) (x_bin o_pow (x_int) (x_int))))) (xs_nil))
      (xs_cons (s_set sc.nd (i := 4) rfl (by first | exact .inl rfl | exact .inr rfl) (x_bin o_mod (x_bin o_add (x_bin o_add (x_bin o_mul (x_bin o_mod (x_name 2) (x_int)) (x_int)) (x_bin o_mul (x_int) (x_name 1))) (x_int)) (x_int)))
      (xs_one (s_ret (x_lst (xa_cons (x_name 3) (xa_cons (x_bin o_add (x_bin o_mod (x_bin o_pow (x_name 4) (x_int)) (x_int)) (x_int)) xa_nil)))))))))
theorem sc_is_right : FnScope ["literal", "play"] ["literal", "play"] (defScope s_is_right) := ⟨rfl, rfl, rfl, by decide +kernel, rfl, by decide +kernel, by decide +kernel⟩
theorem cal_is_right (T : Tx K mg) : Cal P w K mg base "is_right" ["literal", "play"] 1 m_is_right := .mk T.d_is_right sc_is_right fun f cdv A outer s H E hr => by
    have sc := sc_is_right
    have hu := hr.units
    have hu5 := hu5_of hr
    exact xs_one (s_ret (x_and (x_cmp o_le (x_callB c_abs rfl T.z_abs boot_abs' (xa_cons (x_name 0) xa_nil)) (x_callB c_len rfl T.z_len boot_len' (xa_cons (x_name 1) xa_nil)) (by first | rfl | with_unfolding_all rfl)) (x_one (x_cmp (o_eq hu) (x_ix o_ix (x_name 1) (x_bin o_sub (x_callB c_abs rfl T.z_abs boot_abs' (xa_cons (x_name 0) xa_nil)) (x_int))) (x_cmp o_gt (x_name 0) (x_int) (by first | rfl | with_unfolding_all rfl)) (by first | rfl | with_unfolding_all rfl)))))
theorem sc_is_kept : FnScope ["row", "play", "literal"] ["row", "play"] (defScope s_is_kept) := ⟨rfl, rfl, rfl, by decide +kernel, rfl, by decide +kernel, by decide +kernel⟩
theorem cal_is_kept (T : Tx K mg) : Cal P w K mg base "is_kept" ["row", "play"] 2 m_is_kept := .mk T.d_is_kept sc_is_kept fun f cdv A outer s H E hr => by
    have sc := sc_is_kept
    exact xs_one (s_ret (x_callB (c_any rfl) rfl T.z_any boot_any' (xa_cons (x_comp (own := [("literal", 2)]) rfl sc.nd (i_seq (x_name 0)) (blkOk_by (by kernel_rfl)) (fun _ _ _ _ _ => g_name sc.nd (i := 2) rfl (by first | exact .inl rfl | exact .inr rfl)) (fun _ _ _ _ _ => ts_nil) (fun _ _ _ _ _ => xc_P (cal_is_right T) hr rfl (xa_cons (x_name 2) (xa_cons (x_name 1) xa_nil)))) xa_nil)))
theorem sc_nearer : FnScope ["literal", "many"] ["literal", "many"] (defScope s_nearer) := ⟨rfl, rfl, rfl, by decide +kernel, rfl, by decide +kernel, by decide +kernel⟩
theorem cal_nearer (T : Tx K mg) : Cal P w K mg base "nearer" ["literal", "many"] 1 m_nearer := .mk T.d_nearer sc_nearer fun f cdv A outer s H E hr => by
    have sc := sc_nearer
    exact xs_one (s_ret (x_ifx (t_cmp o_gt (x_name 0) (x_int) (by first | rfl | with_unfolding_all rfl)) (x_bin o_sub (x_name 0) (x_name 1)) (x_bin o_add (x_name 0) (x_name 1))))
theorem sc_is_open : FnScope ["literal", "play"] ["literal", "play"] (defScope s_is_open) := ⟨rfl, rfl, rfl, by decide +kernel, rfl, by decide +kernel, by decide +kernel⟩
theorem cal_is_open (T : Tx K mg) : Cal P w K mg base "is_open" ["literal", "play"] 1 m_is_open := .mk T.d_is_open sc_is_open fun f cdv A outer s H E hr => by
    have sc := sc_is_open
    exact xs_one (s_ret (x_cmp o_gt (x_callB c_abs rfl T.z_abs boot_abs' (xa_cons (x_name 0) xa_nil)) (x_callB c_len rfl T.z_len boot_len' (xa_cons (x_name 1) xa_nil)) (by first | rfl | with_unfolding_all rfl)))
theorem sc_left : FnScope ["claim", "play", "many", "rows", "found", "row", "literal"] ["claim", "play"] (defScope s_left) := ⟨rfl, rfl, rfl, by decide +kernel, rfl, by decide +kernel, by decide +kernel⟩
theorem cal_left (T : Tx K mg) : Cal P w K mg base "left" ["claim", "play"] 3 m_left := .mk T.d_left sc_left fun f cdv A outer s H E hr => by
    have sc := sc_left
    exact xs_cons (s_set sc.nd (i := 2) rfl (by first | exact .inl rfl | exact .inr rfl) (x_callB c_len rfl T.z_len boot_len' (xa_cons (x_name 1) xa_nil)))
      (xs_cons (s_setLc (own := [("row", 5)]) rfl sc.nd (i := 3) rfl rfl (by rfl) (i_seq (x_ix o_ix (x_name 0) (x_int))) (blkOk_by (by kernel_rfl)) (fun _ _ _ _ _ => g_name sc.nd (i := 5) rfl (by first | exact .inl rfl | exact .inr rfl)) (fun _ _ _ _ _ => ts_one (t_not (t_val (xc_P (cal_is_kept T) hr rfl (xa_cons (x_name 5) (xa_cons (x_name 1) xa_nil)))))) (fun _ _ _ _ _ => x_name 5))
      (xs_cons (s_setLc (own := [("row", 5)]) rfl sc.nd (i := 4) rfl rfl (by rfl) (i_seq (x_name 3)) (blkOk_by (by kernel_rfl)) (fun _ _ _ _ _ => g_name sc.nd (i := 5) rfl (by first | exact .inl rfl | exact .inr rfl)) (fun _ _ _ _ _ => ts_nil) (fun _ _ _ _ _ => x_callTy c_tuple rfl T.z_tuple boot_tuple' (xa_cons (x_comp (own := [("literal", 6)]) rfl sc.nd (i_seq (x_name 5)) (blkOk_by (by kernel_rfl)) (fun _ _ _ _ _ => g_name sc.nd (i := 6) rfl (by first | exact .inl rfl | exact .inr rfl)) (fun _ _ _ _ _ => ts_one (t_val (xc_P (cal_is_open T) hr rfl (xa_cons (x_name 6) (xa_cons (x_name 1) xa_nil))))) (fun _ _ _ _ _ => xc_P (cal_nearer T) hr rfl (xa_cons (x_name 6) (xa_cons (x_name 2) xa_nil)))) xa_nil)))
      (xs_one (s_ret (x_tup (xa_cons (x_slLo (x_ix o_ix (x_name 0) (x_int)) (x_name 2)) (xa_cons (x_callTy c_tuple rfl T.z_tuple boot_tuple' (xa_cons (x_name 4) xa_nil)) xa_nil)))))))
theorem sc_all_kept : FnScope ["claim", "play", "row"] ["claim", "play"] (defScope s_all_kept) := ⟨rfl, rfl, rfl, by decide +kernel, rfl, by decide +kernel, by decide +kernel⟩
theorem cal_all_kept (T : Tx K mg) : Cal P w K mg base "all_kept" ["claim", "play"] 3 m_all_kept := .mk T.d_all_kept sc_all_kept fun f cdv A outer s H E hr => by
    have sc := sc_all_kept
    exact xs_one (s_ret (x_callB (c_all rfl) rfl T.z_all boot_all' (xa_cons (x_comp (own := [("row", 2)]) rfl sc.nd (i_seq (x_ix o_ix (x_name 0) (x_int))) (blkOk_by (by kernel_rfl)) (fun _ _ _ _ _ => g_name sc.nd (i := 2) rfl (by first | exact .inl rfl | exact .inr rfl)) (fun _ _ _ _ _ => ts_nil) (fun _ _ _ _ _ => xc_P (cal_is_kept T) hr rfl (xa_cons (x_name 2) (xa_cons (x_name 1) xa_nil)))) xa_nil)))
theorem sc_other_of : FnScope ["side"] ["side"] (defScope s_other_of) := ⟨rfl, rfl, rfl, by decide +kernel, rfl, by decide +kernel, by decide +kernel⟩
theorem cal_other_of (T : Tx K mg) : Cal P w K mg base "other_of" ["side"] 1 m_other_of := .mk T.d_other_of sc_other_of fun f cdv A outer s H E hr => by
    have sc := sc_other_of
    have hu := hr.units
    have hu5 := hu5_of hr
    exact xs_one (s_ret (x_ifx (t_cmp (o_eq hu) (x_name 0) (x_str) (by first | rfl | with_unfolding_all rfl)) (x_str) (x_str)))
theorem sc_is_lost : FnScope ["row", "play", "literal"] ["row", "play"] (defScope s_is_lost) := ⟨rfl, rfl, rfl, by decide +kernel, rfl, by decide +kernel, by decide +kernel⟩
theorem cal_is_lost (T : Tx K mg) : Cal P w K mg base "is_lost" ["row", "play"] 2 m_is_lost := .mk T.d_is_lost sc_is_lost fun f cdv A outer s H E hr => by
    have sc := sc_is_lost
    exact xs_one (s_ret (x_not (x_callB (c_any rfl) rfl T.z_any boot_any' (xa_cons (x_comp (own := [("literal", 2)]) rfl sc.nd (i_seq (x_name 0)) (blkOk_by (by kernel_rfl)) (fun _ _ _ _ _ => g_name sc.nd (i := 2) rfl (by first | exact .inl rfl | exact .inr rfl)) (fun _ _ _ _ _ => ts_nil) (fun _ _ _ _ _ => x_or (xc_P (cal_is_right T) hr rfl (xa_cons (x_name 2) (xa_cons (x_name 1) xa_nil))) (x_one (xc_P (cal_is_open T) hr rfl (xa_cons (x_name 2) (xa_cons (x_name 1) xa_nil)))))) xa_nil))))
theorem sc_winner : FnScope ["claim", "play", "side", "row"] ["claim", "play"] (defScope s_winner) := ⟨rfl, rfl, rfl, by decide +kernel, rfl, by decide +kernel, by decide +kernel⟩
theorem calN_winner (T : Tx K mg) : ∀ n : Nat, Cal P w K mg base "winner" ["claim", "play"] (4 + n) (mN_winner n)
  | 0 => .zero T.d_winner
  | n + 1 => .mk T.d_winner sc_winner fun f cdv A outer s H E hr => by
    have hr : Room (4 + n) _ := hr
    have ih : Cal P w K mg base "winner" ["claim", "play"] (4 + n) (mN_winner n) := calN_winner T n
    have sc := sc_winner
    have hu := hr.units
    have hu5 := hu5_of hr
    exact xs_cons (s_if (t_val (x_callB (c_any rfl) rfl T.z_any boot_any' (xa_cons (x_comp (own := [("row", 3)]) rfl sc.nd (i_seq (x_ix o_ix (x_name 0) (x_int))) (blkOk_by (by kernel_rfl)) (fun _ _ _ _ _ => g_name sc.nd (i := 3) rfl (by first | exact .inl rfl | exact .inr rfl)) (fun _ _ _ _ _ => ts_nil) (fun _ _ _ _ _ => xc_P (cal_is_lost T) hr rfl (xa_cons (x_name 3) (xa_cons (x_name 1) xa_nil)))) xa_nil))) (xs_one (s_ret (x_str))) (xs_nil))
      (xs_cons (s_if (t_val (xc_P (cal_all_kept T) hr rfl (xa_cons (x_name 0) (xa_cons (x_name 1) xa_nil)))) (xs_one (s_ret (x_str))) (xs_nil))
      (xs_cons (s_set sc.nd (i := 2) rfl (by first | exact .inl rfl | exact .inr rfl) (x_ix o_ix (x_ix o_ix (x_name 0) (x_int)) (x_callB c_len rfl T.z_len boot_len' (xa_cons (x_name 1) xa_nil))))
      (xs_cons (s_if (t_bool (w_or (t_cmp (o_eq hu) (xc_P ih hr rfl (xa_cons (x_name 0) (xa_cons (x_bin o_add (x_name 1) (x_tup (xa_cons (x_bl) xa_nil))) xa_nil))) (x_name 2) (by first | rfl | with_unfolding_all rfl)) (w_or1 (t_cmp (o_eq hu) (xc_P ih hr rfl (xa_cons (x_name 0) (xa_cons (x_bin o_add (x_name 1) (x_tup (xa_cons (x_bl) xa_nil))) xa_nil))) (x_name 2) (by first | rfl | with_unfolding_all rfl))))) (xs_one (s_ret (x_name 2))) (xs_nil))
      (xs_one (s_ret (xc_P (cal_other_of T) hr rfl (xa_cons (x_name 2) xa_nil)))))))
theorem cal_winner (T : Tx K mg) : Cal P w K mg base "winner" ["claim", "play"] 16 m_winner := calN_winner T 12
theorem sc_good_picks : FnScope ["claim", "play", "side", "truth"] ["claim", "play"] (defScope s_good_picks) := ⟨rfl, rfl, rfl, by decide +kernel, rfl, by decide +kernel, by decide +kernel⟩
theorem cal_good_picks (T : Tx K mg) : Cal P w K mg base "good_picks" ["claim", "play"] 17 m_good_picks := .mk T.d_good_picks sc_good_picks fun f cdv A outer s H E hr => by
    have sc := sc_good_picks
    have hu := hr.units
    have hu5 := hu5_of hr
    exact xs_cons (s_if (t_cmp (o_eq hu) (x_callB c_len rfl T.z_len boot_len' (xa_cons (x_name 1) xa_nil)) (x_callB c_len rfl T.z_len boot_len' (xa_cons (x_ix o_ix (x_name 0) (x_int)) xa_nil)) (by first | rfl | with_unfolding_all rfl)) (xs_one (s_ret (x_lst xa_nil))) (xs_nil))
      (xs_cons (s_set sc.nd (i := 2) rfl (by first | exact .inl rfl | exact .inr rfl) (x_ix o_ix (x_ix o_ix (x_name 0) (x_int)) (x_callB c_len rfl T.z_len boot_len' (xa_cons (x_name 1) xa_nil))))
      (xs_one (s_ret (x_comp (own := [("truth", 3)]) rfl sc.nd (i_seq (x_tup (xa_cons (x_bl) (xa_cons (x_bl) xa_nil)))) (blkOk_by (by kernel_rfl)) (fun _ _ _ _ _ => g_name sc.nd (i := 3) rfl (by first | exact .inl rfl | exact .inr rfl)) (fun _ _ _ _ _ => ts_one (t_cmp (o_eq hu) (xc_P (cal_winner T) hr rfl (xa_cons (x_name 0) (xa_cons (x_bin o_add (x_name 1) (x_tup (xa_cons (x_name 3) xa_nil))) xa_nil))) (x_name 2) (by first | rfl | with_unfolding_all rfl))) (fun _ _ _ _ _ => x_name 3)))))
theorem sc_is_kinds : FnScope ["thing", "most", "kind"] ["thing", "most"] (defScope s_is_kinds) := ⟨rfl, rfl, rfl, by decide +kernel, rfl, by decide +kernel, by decide +kernel⟩
theorem cal_is_kinds (T : Tx K mg) : Cal P w K mg base "is_kinds" ["thing", "most"] 1 m_is_kinds := .mk T.d_is_kinds sc_is_kinds fun f cdv A outer s H E hr => by
    have sc := sc_is_kinds
    have hu := hr.units
    have hu5 := hu5_of hr
    exact xs_cons (s_if (t_bool (w_or (t_not (t_val (x_isi .tuple (x_name 0) rfl rfl rfl T.z_isinstance rfl T.z_tuple))) (w_or1 (t_cmp o_gt (x_callB c_len rfl T.z_len boot_len' (xa_cons (x_name 0) xa_nil)) (x_name 1) (by first | rfl | with_unfolding_all rfl))))) (xs_one (s_ret (x_bl))) (xs_nil))
      (xs_one (s_ret (x_callB (c_all rfl) rfl T.z_all boot_all' (xa_cons (x_comp (own := [("kind", 2)]) rfl sc.nd (i_seq (x_name 0)) (blkOk_by (by kernel_rfl)) (fun _ _ _ _ _ => g_name sc.nd (i := 2) rfl (by first | exact .inl rfl | exact .inr rfl)) (fun _ _ _ _ _ => ts_nil) (fun _ _ _ _ _ => x_and (x_isi .str (x_name 2) rfl rfl rfl T.z_isinstance rfl T.z_str) (x_one (x_cmp (o_in hu5) (x_name 2) (x_gstrs T.g_KINDS rfl) (by first | rfl | with_unfolding_all rfl))))) xa_nil))))
theorem sc_is_whole : FnScope ["thing"] ["thing"] (defScope s_is_whole) := ⟨rfl, rfl, rfl, by decide +kernel, rfl, by decide +kernel, by decide +kernel⟩
theorem cal_is_whole (T : Tx K mg) : Cal P w K mg base "is_whole" ["thing"] 1 m_is_whole := .mk T.d_is_whole sc_is_whole fun f cdv A outer s H E hr => by
    have sc := sc_is_whole
    exact xs_one (s_ret (x_and (x_isi .int (x_name 0) rfl rfl rfl T.z_isinstance rfl T.z_int) (x_one (x_not (x_isi .bool (x_name 0) rfl rfl rfl T.z_isinstance rfl T.z_bool)))))
theorem sc_is_row : FnScope ["thing", "many", "names", "one"] ["thing", "many"] (defScope s_is_row) := ⟨rfl, rfl, rfl, by decide +kernel, rfl, by decide +kernel, by decide +kernel⟩
theorem cal_is_row (T : Tx K mg) : Cal P w K mg base "is_row" ["thing", "many"] 2 m_is_row := .mk T.d_is_row sc_is_row fun f cdv A outer s H E hr => by
    have sc := sc_is_row
    have hu := hr.units
    have hu5 := hu5_of hr
    exact xs_cons (s_if (t_bool (w_or (t_not (t_val (x_isi .tuple (x_name 0) rfl rfl rfl T.z_isinstance rfl T.z_tuple))) (w_or1 (t_not (t_val (x_callB (c_all rfl) rfl T.z_all boot_all' (xa_cons (x_comp (own := [("one", 3)]) rfl sc.nd (i_seq (x_name 0)) (blkOk_by (by kernel_rfl)) (fun _ _ _ _ _ => g_name sc.nd (i := 3) rfl (by first | exact .inl rfl | exact .inr rfl)) (fun _ _ _ _ _ => ts_nil) (fun _ _ _ _ _ => x_and (xc_P (cal_is_whole T) hr rfl (xa_cons (x_name 3) xa_nil)) (x_one (x_chain o_le o_le (x_int) (x_callB c_abs rfl T.z_abs boot_abs' (xa_cons (x_name 3) xa_nil)) (x_name 1))))) xa_nil))))))) (xs_one (s_ret (x_bl))) (xs_nil))
      (xs_cons (s_setLc (own := [("one", 3)]) rfl sc.nd (i := 2) rfl rfl (by rfl) (i_seq (x_name 0)) (blkOk_by (by kernel_rfl)) (fun _ _ _ _ _ => g_name sc.nd (i := 3) rfl (by first | exact .inl rfl | exact .inr rfl)) (fun _ _ _ _ _ => ts_nil) (fun _ _ _ _ _ => x_callB c_abs rfl T.z_abs boot_abs' (xa_cons (x_name 3) xa_nil)))
      (xs_one (s_ret (x_cmp (o_eq hu) (x_name 2) (x_sortSet rfl (x_name 2) rfl rfl rfl T.z_sorted rfl T.z_set) (by first | rfl | with_unfolding_all rfl)))))
theorem sc_is_claim : FnScope ["thing", "row"] ["thing"] (defScope s_is_claim) := ⟨rfl, rfl, rfl, by decide +kernel, rfl, by decide +kernel, by decide +kernel⟩
theorem cal_is_claim (T : Tx K mg) : Cal P w K mg base "is_claim" ["thing"] 3 m_is_claim := .mk T.d_is_claim sc_is_claim fun f cdv A outer s H E hr => by
    have sc := sc_is_claim
    have hu := hr.units
    have hu5 := hu5_of hr
    exact xs_cons (s_if (t_bool (w_or (t_not (t_val (x_isi .tuple (x_name 0) rfl rfl rfl T.z_isinstance rfl T.z_tuple))) (w_or (t_cmp (o_ne hu) (x_callB c_len rfl T.z_len boot_len' (xa_cons (x_name 0) xa_nil)) (x_int) (by first | rfl | with_unfolding_all rfl)) (w_or1 (t_not (t_val (xc_P (cal_is_kinds T) hr rfl (xa_cons (x_ix o_ix (x_name 0) (x_int)) (xa_cons (x_gint T.g_MOST_NAMES rfl) xa_nil))))))))) (xs_one (s_ret (x_bl))) (xs_nil))
      (xs_cons (s_if (t_bool (w_or (t_not (t_val (x_isi .tuple (x_ix o_ix (x_name 0) (x_int)) rfl rfl rfl T.z_isinstance rfl T.z_tuple))) (w_or1 (t_cmp o_gt (x_callB c_len rfl T.z_len boot_len' (xa_cons (x_ix o_ix (x_name 0) (x_int)) xa_nil)) (x_gint T.g_MOST_ROWS rfl) (by first | rfl | with_unfolding_all rfl))))) (xs_one (s_ret (x_bl))) (xs_nil))
      (xs_one (s_ret (x_callB (c_all rfl) rfl T.z_all boot_all' (xa_cons (x_comp (own := [("row", 1)]) rfl sc.nd (i_seq (x_ix o_ix (x_name 0) (x_int))) (blkOk_by (by kernel_rfl)) (fun _ _ _ _ _ => g_name sc.nd (i := 1) rfl (by first | exact .inl rfl | exact .inr rfl)) (fun _ _ _ _ _ => ts_nil) (fun _ _ _ _ _ => xc_P (cal_is_row T) hr rfl (xa_cons (x_name 1) (xa_cons (x_callB c_len rfl T.z_len boot_len' (xa_cons (x_ix o_ix (x_name 0) (x_int)) xa_nil)) xa_nil)))) xa_nil)))))
theorem sc_is_play : FnScope ["claim", "thing", "one"] ["claim", "thing"] (defScope s_is_play) := ⟨rfl, rfl, rfl, by decide +kernel, rfl, by decide +kernel, by decide +kernel⟩
theorem cal_is_play (T : Tx K mg) : Cal P w K mg base "is_play" ["claim", "thing"] 1 m_is_play := .mk T.d_is_play sc_is_play fun f cdv A outer s H E hr => by
    have sc := sc_is_play
    exact xs_cons (s_if (t_bool (w_or (t_not (t_val (x_isi .tuple (x_name 1) rfl rfl rfl T.z_isinstance rfl T.z_tuple))) (w_or1 (t_cmp o_gt (x_callB c_len rfl T.z_len boot_len' (xa_cons (x_name 1) xa_nil)) (x_callB c_len rfl T.z_len boot_len' (xa_cons (x_ix o_ix (x_name 0) (x_int)) xa_nil)) (by first | rfl | with_unfolding_all rfl))))) (xs_one (s_ret (x_bl))) (xs_nil))
      (xs_one (s_ret (x_callB (c_all rfl) rfl T.z_all boot_all' (xa_cons (x_comp (own := [("one", 2)]) rfl sc.nd (i_seq (x_name 1)) (blkOk_by (by kernel_rfl)) (fun _ _ _ _ _ => g_name sc.nd (i := 2) rfl (by first | exact .inl rfl | exact .inr rfl)) (fun _ _ _ _ _ => ts_nil) (fun _ _ _ _ _ => x_isi .bool (x_name 2) rfl rfl rfl T.z_isinstance rfl T.z_bool)) xa_nil))))
theorem sc_law : FnScope ["script", "k", "claim", "many", "feed", "turn", "size", "first", "second", "rest", "kept", "gone", "last", "row", "name"] ["script"] (defScope s_law) := ⟨rfl, rfl, rfl, by decide +kernel, rfl, by decide +kernel, by decide +kernel⟩
theorem ok_law (T : Tx K mg) {a : Addr} {fd : FuncData} (D : Fun K "law" "law" s_law a fd) (hL : ∀ ns : List Int, ns.length ≤ 63 → lawF m_law ns) : FnOk P w K mg base CX0 18 a fd ["script"] (spLaw K) :=
  law_ok (m := _) (ar := 1) (n := 15) (k := 17) D sc_law (fun f cdv A outer s H E hr => by
    have sc := sc_law
    have hu := hr.units
    have hu5 := hu5_of hr
    exact xs_cons (s_for PassesOwn.never rfl (i_rng3 rfl T.z_range (xa_cons (x_int) (xa_cons (x_callB (c_max2 rfl) rfl T.z_max boot_max' (xa_cons (x_int) (xa_cons (x_callB (c_min2 rfl) rfl T.z_min boot_min' (xa_cons (x_int) (xa_cons (x_callB c_len rfl T.z_len boot_len' (xa_cons (x_name 0) xa_nil)) xa_nil))) xa_nil))) (xa_cons (x_int) xa_nil)))) (g_name sc.nd (i := 1) rfl (by first | exact .inl rfl | exact .inr rfl)) (xs_cons (s_set sc.nd (i := 2) rfl (by first | exact .inl rfl | exact .inr rfl) (xc_F (cal__law_claim T) hr rfl (xc_P (cal__law_feed T) hr rfl (xa_cons (x_name 0) (xa_cons (x_name 1) xa_nil))) (xa_cons (x_int) (xa_cons (x_int) xa_nil))))
      (xs_cons (s_set sc.nd (i := 3) rfl (by first | exact .inl rfl | exact .inr rfl) (x_callB c_len rfl T.z_len boot_len' (xa_cons (x_ix o_ix (x_name 2) (x_int)) xa_nil)))
      (xs_cons (s_set sc.nd (i := 4) rfl (by first | exact .inl rfl | exact .inr rfl) (xc_P (cal__law_feed T) hr rfl (xa_cons (x_name 0) (xa_cons (x_bin o_add (x_name 1) (x_int)) xa_nil))))
      (xs_one (s_for PassesOwn.never rfl (i_rng1 rfl T.z_range (xa_cons (x_int) xa_nil)) (g_name sc.nd (i := 5) rfl (by first | exact .inl rfl | exact .inr rfl)) (xs_cons (s_set sc.nd (i := 6) rfl (by first | exact .inl rfl | exact .inr rfl) (xc_S [true, false] (cal__law_take T) hr rfl (xa_cons (x_name 4) (xa_cons (x_bin o_add (x_name 3) (x_int)) xa_nil))))
      (xs_cons (s_set sc.nd (i := 7) rfl (by first | exact .inl rfl | exact .inr rfl) (x_callTy c_tuple rfl T.z_tuple boot_tuple' (xa_cons (x_comp (own := [("name", 14)]) rfl sc.nd (i_rng1 rfl T.z_range (xa_cons (x_name 6) xa_nil)) (blkOk_by (by kernel_rfl)) (fun _ _ _ _ _ => g_name sc.nd (i := 14) rfl (by first | exact .inl rfl | exact .inr rfl)) (fun _ _ _ _ _ => ts_nil) (fun _ _ _ _ _ => x_cmp (o_eq hu) (xc_S [true, false] (cal__law_take T) hr rfl (xa_cons (x_name 4) (xa_cons (x_int) xa_nil))) (x_int) (by first | rfl | with_unfolding_all rfl))) xa_nil)))
      (xs_cons (s_set sc.nd (i := 8) rfl (by first | exact .inl rfl | exact .inr rfl) (x_callTy c_tuple rfl T.z_tuple boot_tuple' (xa_cons (x_comp (own := [("name", 14)]) rfl sc.nd (i_rng1 rfl T.z_range (xa_cons (xc_S [true, false] (cal__law_take T) hr rfl (xa_cons (x_name 4) (xa_cons (x_bin o_add (x_bin o_sub (x_name 3) (x_name 6)) (x_int)) xa_nil))) xa_nil)) (blkOk_by (by kernel_rfl)) (fun _ _ _ _ _ => g_name sc.nd (i := 14) rfl (by first | exact .inl rfl | exact .inr rfl)) (fun _ _ _ _ _ => ts_nil) (fun _ _ _ _ _ => x_cmp (o_eq hu) (xc_S [true, false] (cal__law_take T) hr rfl (xa_cons (x_name 4) (xa_cons (x_int) xa_nil))) (x_int) (by first | rfl | with_unfolding_all rfl))) xa_nil)))
      (xs_cons (s_set sc.nd (i := 9) rfl (by first | exact .inl rfl | exact .inr rfl) (xc_P (cal_left T) hr rfl (xa_cons (x_name 2) (xa_cons (x_name 7) xa_nil))))
      (xs_cons (s_if (t_bool (w_or (t_cmp o_notB (xc_P (cal_is_claim T) hr rfl (xa_cons (x_name 9) xa_nil)) (x_bl) (by first | rfl | with_unfolding_all rfl)) (w_or1 (t_cmp o_notB (xc_P (cal_is_play T) hr rfl (xa_cons (x_name 2) (xa_cons (x_bin o_add (x_name 7) (x_name 8)) xa_nil))) (x_bl) (by first | rfl | with_unfolding_all rfl))))) (xs_one (s_ret (x_bl))) (xs_nil))
      (xs_cons (s_if (t_cmp (o_ne hu) (xc_P (cal_left T) hr rfl (xa_cons (x_name 9) (xa_cons (x_name 8) xa_nil))) (xc_P (cal_left T) hr rfl (xa_cons (x_name 2) (xa_cons (x_bin o_add (x_name 7) (x_name 8)) xa_nil))) (by first | rfl | with_unfolding_all rfl)) (xs_one (s_ret (x_bl))) (xs_nil))
      (xs_cons (s_if (t_cmp (o_ne hu) (xc_P (cal_winner T) hr rfl (xa_cons (x_name 9) (xa_cons (x_name 8) xa_nil))) (xc_P (cal_winner T) hr rfl (xa_cons (x_name 2) (xa_cons (x_bin o_add (x_name 7) (x_name 8)) xa_nil))) (by first | rfl | with_unfolding_all rfl)) (xs_one (s_ret (x_bl))) (xs_nil))
      (xs_cons (s_if (t_cmp (o_ne hu) (xc_P (cal_good_picks T) hr rfl (xa_cons (x_name 9) (xa_cons (x_name 8) xa_nil))) (xc_P (cal_good_picks T) hr rfl (xa_cons (x_name 2) (xa_cons (x_bin o_add (x_name 7) (x_name 8)) xa_nil))) (by first | rfl | with_unfolding_all rfl)) (xs_one (s_ret (x_bl))) (xs_nil))
      (xs_cons (s_setLc (own := [("row", 13)]) rfl sc.nd (i := 10) rfl rfl (by rfl) (i_seq (x_ix o_ix (x_name 2) (x_int))) (blkOk_by (by kernel_rfl)) (fun _ _ _ _ _ => g_name sc.nd (i := 13) rfl (by first | exact .inl rfl | exact .inr rfl)) (fun _ _ _ _ _ => ts_one (t_val (xc_P (cal_is_kept T) hr rfl (xa_cons (x_name 13) (xa_cons (x_bin o_add (x_name 7) (x_name 8)) xa_nil))))) (fun _ _ _ _ _ => x_name 13))
      (xs_cons (s_setLc (own := [("row", 13)]) rfl sc.nd (i := 11) rfl rfl (by rfl) (i_seq (x_ix o_ix (x_name 2) (x_int))) (blkOk_by (by kernel_rfl)) (fun _ _ _ _ _ => g_name sc.nd (i := 13) rfl (by first | exact .inl rfl | exact .inr rfl)) (fun _ _ _ _ _ => ts_one (t_val (xc_P (cal_is_lost T) hr rfl (xa_cons (x_name 13) (xa_cons (x_bin o_add (x_name 7) (x_name 8)) xa_nil))))) (fun _ _ _ _ _ => x_name 13))
      (xs_cons (s_set sc.nd (i := 12) rfl (by first | exact .inl rfl | exact .inr rfl) (x_ix o_ix (xc_P (cal_left T) hr rfl (xa_cons (x_name 2) (xa_cons (x_bin o_add (x_name 7) (x_name 8)) xa_nil))) (x_int)))
      (xs_one (s_if (t_bool (w_or (t_cmp (o_ne hu) (x_callB c_len rfl T.z_len boot_len' (xa_cons (x_name 12) xa_nil)) (x_bin o_sub (x_callB c_len rfl T.z_len boot_len' (xa_cons (x_ix o_ix (x_name 2) (x_int)) xa_nil)) (x_callB c_len rfl T.z_len boot_len' (xa_cons (x_name 10) xa_nil))) (by first | rfl | with_unfolding_all rfl)) (w_or1 (t_cmp (o_ne hu) (x_cnt hu5 rfl (x_name 12) (x_tup xa_nil)) (x_callB c_len rfl T.z_len boot_len' (xa_cons (x_name 11) xa_nil)) (by first | rfl | with_unfolding_all rfl))))) (xs_one (s_ret (x_bl))) (xs_nil))))))))))))))))))))
      (xs_one (s_ret (x_bl)))) hL
end
end Al
end
section
open PySem PySem.W PyProof.Rows Al
set_option maxRecDepth 100000 in
set_option maxHeartbeats 0 in
theorem PySem.Challenge.cw_allsome_k05_whole_left_and_left_holds : PySem.Challenge.rw_allsome_k05_whole_left_and_left.Holds := by
  w_on; o_law; k_head; (case hw => w_witness2)
  k_fill
  refine law_walk (k := 18) (l := PySem.Challenge.rw_allsome_k05_whole_left_and_left) rfl rfl ⟨rfl, by decide, by decide⟩ (fun w h Y => PySem.W.kIn_of Y) ?F
  case F =>
    intro w mg fa h KX G hmg
    have d__law_take := df_mk (x := "_law_take") (ps := ["feed", "many"]) (st := s__law_take) KX G (by k_is) (by k_is) (by k_is) (by k_is) fun _ _ _ _ _ _ us hl => match us, hl with | [_, _], _ => rfl
    have d__law_pick := df_mk (x := "_law_pick") (ps := ["feed", "some"]) (st := s__law_pick) KX G (by k_is) (by k_is) (by k_is) (by k_is) fun _ _ _ _ _ _ us hl => match us, hl with | [_, _], _ => rfl
    have d__law_row := df_mk (x := "_law_row") (ps := ["feed", "many"]) (st := s__law_row) KX G (by k_is) (by k_is) (by k_is) (by k_is) fun _ _ _ _ _ _ us hl => match us, hl with | [_, _], _ => rfl
    have d__law_claim := df_mk (x := "_law_claim") (ps := ["feed", "most", "rows"]) (st := s__law_claim) KX G (by k_is) (by k_is) (by k_is) (by k_is) fun _ _ _ _ _ _ us hl => match us, hl with | [_, _, _], _ => rfl
    have d__law_feed := df_mk (x := "_law_feed") (ps := ["script", "k"]) (st := s__law_feed) KX G (by k_is) (by k_is) (by k_is) (by k_is) fun _ _ _ _ _ _ us hl => match us, hl with | [_, _], _ => rfl
    have d_is_right := df_mk (x := "is_right") (ps := ["literal", "play"]) (st := s_is_right) KX G (by k_is) (by k_is) (by k_is) (by k_is) fun _ _ _ _ _ _ us hl => match us, hl with | [_, _], _ => rfl
    have d_is_kept := df_mk (x := "is_kept") (ps := ["row", "play"]) (st := s_is_kept) KX G (by k_is) (by k_is) (by k_is) (by k_is) fun _ _ _ _ _ _ us hl => match us, hl with | [_, _], _ => rfl
    have d_nearer := df_mk (x := "nearer") (ps := ["literal", "many"]) (st := s_nearer) KX G (by k_is) (by k_is) (by k_is) (by k_is) fun _ _ _ _ _ _ us hl => match us, hl with | [_, _], _ => rfl
    have d_is_open := df_mk (x := "is_open") (ps := ["literal", "play"]) (st := s_is_open) KX G (by k_is) (by k_is) (by k_is) (by k_is) fun _ _ _ _ _ _ us hl => match us, hl with | [_, _], _ => rfl
    have d_left := df_mk (x := "left") (ps := ["claim", "play"]) (st := s_left) KX G (by k_is) (by k_is) (by k_is) (by k_is) fun _ _ _ _ _ _ us hl => match us, hl with | [_, _], _ => rfl
    have d_all_kept := df_mk (x := "all_kept") (ps := ["claim", "play"]) (st := s_all_kept) KX G (by k_is) (by k_is) (by k_is) (by k_is) fun _ _ _ _ _ _ us hl => match us, hl with | [_, _], _ => rfl
    have d_other_of := df_mk (x := "other_of") (ps := ["side"]) (st := s_other_of) KX G (by k_is) (by k_is) (by k_is) (by k_is) fun _ _ _ _ _ _ us hl => match us, hl with | [_], _ => rfl
    have d_is_lost := df_mk (x := "is_lost") (ps := ["row", "play"]) (st := s_is_lost) KX G (by k_is) (by k_is) (by k_is) (by k_is) fun _ _ _ _ _ _ us hl => match us, hl with | [_, _], _ => rfl
    have d_winner := df_mk (x := "winner") (ps := ["claim", "play"]) (st := s_winner) KX G (by k_is) (by k_is) (by k_is) (by k_is) fun _ _ _ _ _ _ us hl => match us, hl with | [_, _], _ => rfl
    have d_good_picks := df_mk (x := "good_picks") (ps := ["claim", "play"]) (st := s_good_picks) KX G (by k_is) (by k_is) (by k_is) (by k_is) fun _ _ _ _ _ _ us hl => match us, hl with | [_, _], _ => rfl
    have d_is_kinds := df_mk (x := "is_kinds") (ps := ["thing", "most"]) (st := s_is_kinds) KX G (by k_is) (by k_is) (by k_is) (by k_is) fun _ _ _ _ _ _ us hl => match us, hl with | [_, _], _ => rfl
    have d_is_whole := df_mk (x := "is_whole") (ps := ["thing"]) (st := s_is_whole) KX G (by k_is) (by k_is) (by k_is) (by k_is) fun _ _ _ _ _ _ us hl => match us, hl with | [_], _ => rfl
    have d_is_row := df_mk (x := "is_row") (ps := ["thing", "many"]) (st := s_is_row) KX G (by k_is) (by k_is) (by k_is) (by k_is) fun _ _ _ _ _ _ us hl => match us, hl with | [_, _], _ => rfl
    have d_is_claim := df_mk (x := "is_claim") (ps := ["thing"]) (st := s_is_claim) KX G (by k_is) (by k_is) (by k_is) (by k_is) fun _ _ _ _ _ _ us hl => match us, hl with | [_], _ => rfl
    have d_is_play := df_mk (x := "is_play") (ps := ["claim", "thing"]) (st := s_is_play) KX G (by k_is) (by k_is) (by k_is) (by k_is) fun _ _ _ _ _ _ us hl => match us, hl with | [_, _], _ => rfl
    have z_abs := PySem.W.mg_none_of (n := "abs") KX G (by k_is)
    have z_all := PySem.W.mg_none_of (n := "all") KX G (by k_is)
    have z_any := PySem.W.mg_none_of (n := "any") KX G (by k_is)
    have z_bool := PySem.W.mg_none_of (n := "bool") KX G (by k_is)
    have z_int := PySem.W.mg_none_of (n := "int") KX G (by k_is)
    have z_isinstance := PySem.W.mg_none_of (n := "isinstance") KX G (by k_is)
    have z_len := PySem.W.mg_none_of (n := "len") KX G (by k_is)
    have z_list := PySem.W.mg_none_of (n := "list") KX G (by k_is)
    have z_max := PySem.W.mg_none_of (n := "max") KX G (by k_is)
    have z_min := PySem.W.mg_none_of (n := "min") KX G (by k_is)
    have z_range := PySem.W.mg_none_of (n := "range") KX G (by k_is)
    have z_set := PySem.W.mg_none_of (n := "set") KX G (by k_is)
    have z_sorted := PySem.W.mg_none_of (n := "sorted") KX G (by k_is)
    have z_str := PySem.W.mg_none_of (n := "str") KX G (by k_is)
    have z_tuple := PySem.W.mg_none_of (n := "tuple") KX G (by k_is)
    have g_KINDS := kt2 (x := "KINDS") KX G (by k_is) (by k_is)
    have g_MOST_NAMES := gint_mk (x := "MOST_NAMES") (i := 8) KX G (by k_is)
    have g_MOST_ROWS := gint_mk (x := "MOST_ROWS") (i := 20) KX G (by k_is)
    have T : Tx _ mg := ⟨d__law_take, d__law_pick, d__law_row, d__law_claim, d__law_feed, d_is_right, d_is_kept, d_nearer, d_is_open, d_left, d_all_kept, d_other_of, d_is_lost, d_winner, d_good_picks, d_is_kinds, d_is_whole, d_is_row, d_is_claim, d_is_play, z_abs, z_all, z_any, z_bool, z_int, z_isinstance, z_len, z_list, z_max, z_min, z_range, z_set, z_sorted, z_str, z_tuple, g_KINDS, g_MOST_NAMES, g_MOST_ROWS⟩
    exact law_mk (st := s_law) KX G hmg (by k_is) (by k_is) (by k_is) (by k_is) (fun s v _ _ _ _ _ _ => .of_eq rfl) fun base fd D => ok_law T D plain_law
#print axioms PySem.Challenge.cw_allsome_k05_whole_left_and_left_holds
end
