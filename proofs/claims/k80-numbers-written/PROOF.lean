import PyProof.Rows.All
import Wide.All
import OpenK.AllK
import Wide.FinOn
import HandS.ForMost
import HandS.Exc
import HandS.WordsExc
import HandS.ExcOwn
import HandS.Wide
import HandS.Zip
import HandS.Walk
import HandS.Deep
import HandS.IsInst
import HandS.ExcIs
import HandS.TryOnly
import HandS.TryMany
import HandS.NoneIn
import HandS.TupAny
import HandS.Style
import HandS.More
import HandS.CallSlots
import HandS.Text
import HandS.StrMore
import HandS.SortRule
import HandS.SetFor
import HandS.HeadHook1
import HandS.Defaults
import HandS.HeadHook2
import HandS.HeadHook4
import HandS.HeadEnd
import HandS.HeadWalk
import HandS.Head0
import HandS.Head1
import HandS.Head2
import HandS.Codes
import PySem.Challenge.RW_scissorhall_k80_numbers_written
set_option Elab.async false
set_option linter.all false
set_option maxRecDepth 100000
set_option maxHeartbeats 2000000
/-! Mi0: a small interpreter of the Python that the texts use. Values are data (PyData), lists belong to slots. -/
namespace Mi
open PySem

abbrev D := PyData
/-- a list that may only be read (the script), as data -/
def frzD (ds : List D) : D := .dict [(.none, .list ds)]
inductive BOp | add | sub | mul | fdiv | mod | pow
  deriving DecidableEq
inductive COp | eq | ne | lt | le | gt | ge | is | isnot | isin | notin
  deriving DecidableEq
inductive Blt | abs | len | int | sum | all | any | tuple | list | min | max | sorted | str | dict
  deriving DecidableEq
inductive Mth | append | extend | pop | popAt | insert | count
  deriving DecidableEq
inductive Ty | int | bool | tuple | list | str
  deriving DecidableEq

/-- a text's methods with one argument -/
inductive Tm | split | join | partition | find | zfill
  deriving DecidableEq

mutual
inductive Tg where
  | nm (i : Nat)
  | tp (ts : Tgs)
inductive Tgs where
  | nil
  | cons (t : Tg) (ts : Tgs)
end
mutual
inductive E where
  | int (i : Int) | bl (b : Bool) | non | str (x : Str) | var (i : Nat) | glb (k : Nat)
  | bin (op : BOp) (a b : E) | neg (a : E) | not (a : E)
  | cmp (op : COp) (a b : E) | chain (op op' : COp) (a b c : E)
  | and (es : Es) | or (es : Es) | ifx (t a b : E)
  | tup (es : Es) | lst (es : Es)
  | ix (a b : E) | slc (a : E) (lo hi : Eo) | rev (a : E) (lo hi : Option Int)
  | call (f : Nat) (es : Es) (dv : List D)
  | blt (b : Blt) (es : Es)
  | isT (e : E) (t : Ty)
  | isE (i : Nat) (cs : List Nat) | fld (i : Nat) (j : Nat)
  | lc (elt : E) (tg : Tg) (it : It) (cond : Eo) (vs : List Nat)
  | mth (m : Mth) (i : Nat) (es : Es)
  | tx (m : Tm) (a b : E)
inductive Es where
  | nil
  | cons (e : E) (es : Es)
inductive Eo where
  | no
  | so (e : E)
inductive It where
  | e (e : E) | rng1 (a : E) | rng2 (a b : E) | enm (e : E) | zip (a b : E)
end
mutual
inductive S where
  | asg (t : Tg) (e : E)
  | par (i j : Nat) (a b : E)
  | setIx (i : Nat) (ix e : E)
  | aug (i : Nat) (op : BOp) (e : E)
  | expr (e : E)
  | ret (e : E) | retN | pass | brk | cnt
  | ifs (t : E) (a b : Ss)
  | whl (t : E) (b : Ss)
  | for_ (t : Tg) (it : It) (b : Ss)
  | rais (c : Nat) (es : Es)
  | try_ (b : Ss) (hs : Hs)
  | stuck
  | raisT (c : Nat)
inductive Ss where
  | nil
  | cons (s : S) (ss : Ss)
  | kuhn (b : Ss)
/-- except clauses: the classes, the name's slot, the suite -/
inductive Hs where
  | nil
  | cons (cs : List Nat) (i : Option Nat) (b : Ss) (hs : Hs)
end

/-- what a slot holds: nothing, data, a list of its own (p: a parameter's, the caller's own), an exception -/
inductive Slot where
  | no
  | val (d : D)
  | own (p : Bool) (d : D)
  | exn (c : Nat) (args : List D)
abbrev Sl := List Slot
/-- a value: data, a new list, what the slot i holds -/
inductive Vl where
  | dt (d : D)
  | nw (d : D)
  | br (i : Nat)
inductive R (α : Type) where
  | ok (a : α) (s : Sl)
  | ex (c : Nat) (args : List D) (s : Sl)
  | no
def R.bind {α β : Type} (x : R α) (f : α → Sl → R β) : R β :=
  match x with
  | .ok a s => f a s
  | .ex c args s => .ex c args s
  | .no => .no
inductive Ret where
  | ok (nw : Bool) (d : D) (outs : List D)
  | ex (c : Nat) (args : List D) (outs : List D)
structure Env where
  fn : Nat → List D → Option Ret
  mask : Nat → List Bool
  glb : Nat → D
  /-- the classes above an exception's class: under c e says that e is c or under it -/
  under : Nat → Nat → Bool

def ofO {α : Type} (o : Option α) (s : Sl) : R α := match o with | some a => .ok a s | none => .no

def Vl.get (s : Sl) : Vl → Option D
  | .dt d => some d
  | .nw d => some d
  | .br i => match s[i]? with
    | some (.val d) => some d
    | some (.own _ d) => some d
    | _ => none
/-- a value goes where it may be seen from elsewhere -/
def esc (s : Sl) : Vl → Option (D × Sl)
  | .dt d => some (d, s)
  | .nw d => some (d, s)
  | .br i => match s[i]? with
    | some (.val d) => some (d, s)
    | some (.own false d) => some (d, s.set i (.val d))
    | _ => none
def escs (s : Sl) : List Vl → Option (List D × Sl)
  | [] => some ([], s)
  | v :: vs => match esc s v with
    | some (d, s1) => match escs s1 vs with
      | some (ds, s2) => some (d :: ds, s2)
      | none => none
    | none => none
/-- arguments: what the callee only reads goes where it may be seen; a parameter that it changes is a list of the caller's own, by its name, none twice -/
def escM : List Bool → List Vl → Sl → Option Sl
  | _, [], s => some s
  | true :: m, _ :: vs, s => escM m vs s
  | false :: m, v :: vs, s => match esc s v with
    | some (_, s1) => escM m vs s1
    | none => none
  | [], v :: vs, s => match esc s v with
    | some (_, s1) => escM [] vs s1
    | none => none
def brs : List Bool → List Vl → List Nat
  | true :: m, .br i :: vs => i :: brs m vs
  | _ :: m, _ :: vs => brs m vs
  | _, _ => []
def mskOk (s : Sl) : List Bool → List Vl → Bool
  | true :: m, v :: vs => (match v with
    | .br i => (match s[i]? with | some (.own _ _) => true | _ => false) && !(brs m vs).contains i
    | _ => false) && mskOk s m vs
  | false :: m, _ :: vs => mskOk s m vs
  | [], _ => true
  | _, [] => true
/-- the changed lists go back -/
def backL (s : Sl) : List Nat → List D → Option Sl
  | [], [] => some s
  | i :: is, o :: os => match s[i]? with
    | some (.own p _) => backL (s.set i (.own p o)) is os
    | _ => none
  | _, _ => none

/-! ### on data -/
def mulB (i j : Int) : Bool := decide (i.natAbs < 2 ^ 64) || decide (j.natAbs < 2 ^ 64) || decide (i.natAbs.log2 + j.natAbs.log2 < 1000000)
def divB (j : Int) : Bool := decide (j ≠ 0) && decide (j.natAbs.log2 < 9000)
def sizeB (n : Nat) : Bool := decide (n ≤ sizeLine)
def intsOf : List D → Option (List Int)
  | [] => some []
  | .int i :: ds => match intsOf ds with
    | some ns => some (i :: ns)
    | none => none
  | _ => none
def blsOf : List D → Option (List Bool)
  | [] => some []
  | .bool i :: ds => match blsOf ds with
    | some ns => some (i :: ns)
    | none => none
  | _ => none
def strsOf : List D → Option (List Str)
  | [] => some []
  | .str z :: ds => match strsOf ds with
    | some zs => some (z :: zs)
    | none => none
  | _ => none
def joinB (a : Str) (ys : List Str) : Bool := decide ((ys.map (·.length)).sum + ys.length * a.length ≤ 16777216)
def txD : Tm → Str → D → Option Vl
  | .split, a, .str b => if !(b.length == 0) && decide (a.length + 2 ≤ sizeLine) then some (.nw (.list ((Txt.split a b).map .str))) else none
  | .partition, a, .str b => if !(b.length == 0) && decide (a.length ≤ sizeLine) then some (.dt (.tuple [.str (Txt.partition a b).1, .str (Txt.partition a b).2.1, .str (Txt.partition a b).2.2])) else none
  | .find, a, .str b => some (.dt (.int (Txt.find a b)))
  | .zfill, a, .int i => if PadOk i then some (.dt (.str (Txt.zfill a i))) else none
  | .join, a, .list ds => match strsOf ds with
    | some ys => if joinB a ys then some (.dt (.str (Txt.join a ys))) else none
    | none => none
  | .join, a, .tuple ds => match strsOf ds with
    | some ys => if joinB a ys then some (.dt (.str (Txt.join a ys))) else none
    | none => none
  | _, _, _ => none
def cutD (xs : List D) (lo hi : Option Int) : List D := (xs.drop (HT.sIx xs.length 0 lo)).take (HT.sIx xs.length xs.length hi - HT.sIx xs.length 0 lo)
def binD : BOp → D → D → Option Vl
  | .add, .int a, .int b => some (.dt (.int (a + b)))
  | .add, .str a, .str b => if sizeB (a.length + b.length) then some (.dt (.str (a ++ b))) else none
  | .add, .list a, .list b => if sizeB (a.length + b.length) then some (.nw (.list (a ++ b))) else none
  | .add, .tuple a, .tuple b => if sizeB (a.length + b.length) then some (.dt (.tuple (a ++ b))) else none
  | .sub, .int a, .int b => some (.dt (.int (a - b)))
  | .mul, .int a, .int b => if mulB a b then some (.dt (.int (a * b))) else none
  | .mul, .list a, .int k => if decide (0 ≤ k) && decide (k < 2 ^ 62) && sizeB (a.length * k.toNat) then some (.nw (.list (List.replicate k.toNat a).flatten)) else none
  | .fdiv, .int a, .int b => if divB b then some (.dt (.int (a.fdiv b))) else none
  | .mod, .int a, .int b => if decide (b ≠ 0) then some (.dt (.int (a.fmod b))) else none
  | .pow, .int a, .int b => if decide (0 ≤ b) && decide (b ≤ 1000000) && decide (a.natAbs < 2 ^ 64) then some (.dt (.int (a ^ b.toNat))) else none
  | _, _, _ => none
def eqB (a b : D) : Option Bool := if SeqAt.shaped a && SeqAt.shaped b then some (PyData.eqv a b) else none
def isD : D → D → Option Bool
  | .none, .none => some true
  | _, .none => some false
  | .bool a, .bool b => some (a == b)
  | _, _ => none
def cmpD : COp → D → D → Option Bool
  | .eq, a, b => eqB a b
  | .ne, a, b => (eqB a b).map (!·)
  | .lt, .int a, .int b => some (decide (a < b))
  | .le, .int a, .int b => some (decide (a ≤ b))
  | .gt, .int a, .int b => some (decide (b < a))
  | .ge, .int a, .int b => some (decide (b ≤ a))
  | .is, a, b => isD a b
  | .isnot, a, b => (isD a b).map (!·)
  | .isin, a, .list bs => if SeqAt.shaped a && SeqAt.shaped (.list bs) then some (bs.any fun z => PyData.eqv z a) else none
  | .notin, a, .list bs => if SeqAt.shaped a && SeqAt.shaped (.list bs) then some (!bs.any fun z => PyData.eqv z a) else none
  | .isin, a, .tuple bs => if SeqAt.shaped a && SeqAt.shaped (.tuple bs) then some (bs.any fun z => PyData.eqv z a) else none
  | .notin, a, .tuple bs => if SeqAt.shaped a && SeqAt.shaped (.tuple bs) then some (!bs.any fun z => PyData.eqv z a) else none
  | .isin, .str a, .str b => some (!(Builtin.Str.occurrences b a 0 b.length 1).isEmpty)
  | _, _, _ => none
def ixD : D → D → Option D
  | .list xs, .int i => L2.atI xs i
  | .tuple xs, .int i => L2.atI xs i
  | .str z, .int i => if sizeB z.length then (L2.atI z.cps.toList i).map fun c => .str ⟨#[c]⟩ else none
  | _, _ => none
def slcD : D → Option Int → Option Int → Option Vl
  | .list xs, lo, hi => some (.nw (.list (cutD xs lo hi)))
  | .dict [(.none, .list xs)], lo, hi => some (.nw (.list (cutD xs lo hi)))
  | .tuple xs, lo, hi => some (.dt (.tuple (cutD xs lo hi)))
  | .str z, lo, hi => if sizeB z.length then some (.dt (.str (L2.cutS z lo hi))) else none
  | _, _, _ => none
/-- a slice with the step -1 -/
def revD (ds : List D) (lo hi : Option Int) : List D := (sliceRange (PySem.sliceBounds lo hi (some (-1)) ds.length).1 (PySem.sliceBounds lo hi (some (-1)) ds.length).2.1 (PySem.sliceBounds lo hi (some (-1)) ds.length).2.2).filterMap (ds[·]?)
def isTD : D → Ty → Option Bool
  | .dict _, _ => none
  | .int _, .int => some true
  | .bool _, .int => some true
  | .bool _, .bool => some true
  | .tuple _, .tuple => some true
  | .list _, .list => some true
  | .str _, .str => some true
  | _, _ => some false
/-- x before y: number by number, the shorter first -/
def lexL : List Int → List Int → Bool
  | [], [] => false
  | [], _ :: _ => true
  | _ :: _, [] => false
  | x :: xs, y :: ys => if x = y then lexL xs ys else decide (x < y)
def insL (x : List Int) : List (List Int) → List (List Int)
  | [] => [x]
  | y :: ys => if lexL y x then y :: insL x ys else x :: y :: ys
/-- sorted, equal ones in their order -/
def sortL : List (List Int) → List (List Int)
  | [] => []
  | x :: xs => insL x (sortL xs)
/-- tuples of whole numbers, none empty -/
def tisOf : List D → Option (List (List Int))
  | [] => some []
  | .tuple ds :: xs => match intsOf ds with
    | some (n :: ns) => match tisOf xs with
      | some ps => some ((n :: ns) :: ps)
      | none => none
    | _ => none
  | _ => none
def tupD (p : List Int) : D := .tuple (p.map .int)
def maxD : List Int → Option Vl
  | [] => none
  | n :: ns => some (.dt (.int (ns.foldl max n)))
def minD : List Int → Option Vl
  | [] => none
  | n :: ns => some (.dt (.int (ns.foldl min n)))
theorem fold_max : ∀ (ns : List Int) (n : Int), ns.foldl max n ∈ n :: ns ∧ ∀ y ∈ n :: ns, y ≤ ns.foldl max n
  | [], n => ⟨List.mem_cons_self, fun y h => by simp at h; subst h; exact Int.le_refl _⟩
  | m :: ns, n => by
    obtain ⟨h1, h2⟩ := fold_max ns (max n m)
    refine ⟨?_, fun y h => ?_⟩
    · rcases List.mem_cons.mp h1 with e | e
      · rw [List.foldl_cons, e]
        rcases (by omega : max n m = n ∨ max n m = m) with q | q <;> rw [q] <;> simp
      · rw [List.foldl_cons]
        exact List.mem_cons_of_mem _ (List.mem_cons_of_mem _ e)
    · have q := h2 (max n m) List.mem_cons_self
      rw [List.foldl_cons]
      rcases List.mem_cons.mp h with e | e
      · omega
      · rcases List.mem_cons.mp e with e | e
        · omega
        · exact h2 y (List.mem_cons_of_mem _ e)
theorem fold_min : ∀ (ns : List Int) (n : Int), ns.foldl min n ∈ n :: ns ∧ ∀ y ∈ n :: ns, ns.foldl min n ≤ y
  | [], n => ⟨List.mem_cons_self, fun y h => by simp at h; subst h; exact Int.le_refl _⟩
  | m :: ns, n => by
    obtain ⟨h1, h2⟩ := fold_min ns (min n m)
    refine ⟨?_, fun y h => ?_⟩
    · rcases List.mem_cons.mp h1 with e | e
      · rw [List.foldl_cons, e]
        rcases (by omega : min n m = n ∨ min n m = m) with q | q <;> rw [q] <;> simp
      · rw [List.foldl_cons]
        exact List.mem_cons_of_mem _ (List.mem_cons_of_mem _ e)
    · have q := h2 (min n m) List.mem_cons_self
      rw [List.foldl_cons]
      rcases List.mem_cons.mp h with e | e
      · omega
      · rcases List.mem_cons.mp e with e | e
        · omega
        · exact h2 y (List.mem_cons_of_mem _ e)
def bltD : Blt → List D → Option Vl
  | .abs, [.int i] => some (.dt (.int (if i < 0 then -i else i)))
  | .len, [.list xs] => some (.dt (.int xs.length))
  | .len, [.dict [(.none, .list xs)]] => some (.dt (.int xs.length))
  | .len, [.tuple xs] => some (.dt (.int xs.length))
  | .len, [.str z] => if sizeB z.length then some (.dt (.int z.length)) else none
  | .int, [.int i] => some (.dt (.int i))
  | .int, [.bool b] => some (.dt (.int (if b then 1 else 0)))
  | .sum, [.list xs] => (intsOf xs).map fun ns => .dt (.int ns.sum)
  | .all, [.list xs] => (blsOf xs).map fun bs => .dt (.bool (bs.all id))
  | .any, [.list xs] => (blsOf xs).map fun bs => .dt (.bool (bs.any id))
  | .tuple, [.list xs] => some (.dt (.tuple xs))
  | .tuple, [.tuple xs] => some (.dt (.tuple xs))
  | .list, [.list xs] => some (.nw (.list xs))
  | .list, [.tuple xs] => some (.nw (.list xs))
  | .min, [.int a, .int b] => some (.dt (.int (if b < a then b else a)))
  | .max, [.int a, .int b] => some (.dt (.int (if b > a then b else a)))
  | .sorted, [.list xs] => (tisOf xs).map fun ps => .nw (.list ((sortL ps).map tupD))
  | .sorted, [.tuple xs] => (tisOf xs).map fun ps => .nw (.list ((sortL ps).map tupD))
  | .any, [.tuple xs] => (intsOf xs).map fun ns => .dt (.bool (ns.any (· != 0)))
  | .max, [.list xs] => (intsOf xs).bind maxD
  | .min, [.list xs] => (intsOf xs).bind minD
  | .str, [.int i] => if decide (i.natAbs.log2 < 1920) then some (.dt (.str (toString i))) else none
  | .int, [.str z] => if decide (z.length ≤ 640) then (PySem.intText? z).map fun n => .dt (.int n) else none
  | _, _ => none
/-- a method that changes the list: its value, the list behind it -/
def mthD : Mth → List D → List D → Option (D × List D)
  | .append, xs, [v] => if decide (xs.length < sizeLine) then some (.none, xs ++ [v]) else none
  | .extend, xs, [.list ys] => if sizeB (xs.length + ys.length) then some (.none, xs ++ ys) else none
  | .pop, xs, [] => (xs[xs.length - 1]?).map fun v => (v, xs.dropLast)
  | .popAt, xs, [.int i] => if decide (-(2 ^ 62) ≤ i) && decide (i < 2 ^ 62) then match L2.ixN xs.length i with
    | some k => (xs[k]?).map fun v => (v, xs.eraseIdx k)
    | none => none
    else none
  | .count, xs, [.int k] => (intsOf xs).map fun ns => (.int (ns.count k : Nat), xs)
  | .insert, xs, [.int i, v] => if decide (0 ≤ i) && decide (i < 2 ^ 62) && decide (xs.length < sizeLine) then some (.none, xs.take i.toNat ++ [v] ++ xs.drop i.toNat) else none
  | _, _, _ => none

/-! ### targets -/
def canSet (s : Sl) (i : Nat) : Bool := match s[i]? with
  | some (.own true _) => false
  | some _ => true
  | none => false
mutual
def bindD : Tg → D → Sl → Option Sl
  | .nm i, d, s => if canSet s i then some (s.set i (.val d)) else none
  | .tp ts, .tuple ds, s => bindDs ts ds s
  | .tp ts, .list ds, s => bindDs ts ds s
  | _, _, _ => none
def bindDs : Tgs → List D → Sl → Option Sl
  | .nil, [], s => some s
  | .cons t ts, d :: ds, s => match bindD t d s with
    | some s1 => bindDs ts ds s1
    | none => none
  | _, _, _ => none
end
def bindV (t : Tg) (v : Vl) (s : Sl) : Option Sl :=
  match t, v with
  | .nm i, .nw d => if canSet s i then some (s.set i (.own false d)) else none
  | t, v => match esc s v with
    | some (d, s1) => bindD t d s1
    | none => none
/-- a comprehension's own slots -/
def clean (s : Sl) : List Nat → Bool
  | [] => true
  | j :: vs => (match s[j]? with | some (.own _ _) => false | some (.exn _ _) => false | some _ => true | none => false) && clean s vs
def wipeS (s : Sl) : List Nat → Sl
  | [] => s
  | j :: vs => (wipeS s vs).set j .no
def rstS (s0 s : Sl) : List Nat → Sl
  | [] => s
  | j :: vs => (rstS s0 s vs).set j (s0.getD j .no)
def lcGo (vs : List Nat) (bd : D → Sl → Option Sl) (tst : Sl → R Bool) (el : Sl → R Vl) : List D → List D → Sl → R (List D)
  | [], acc, s => .ok acc s
  | d :: ds, acc, s => match bd d (wipeS s vs) with
    | none => .no
    | some s1 => match tst s1 with
      | .ok true s2 => match el s2 with
        | .ok v s3 => match esc s3 v with
          | some (d', s4) => if decide (acc.length < sizeLine) then lcGo vs bd tst el ds (acc ++ [d']) (rstS s s4 vs) else .no
          | none => .no
        | _ => .no
      | .ok false s2 => lcGo vs bd tst el ds acc (rstS s s2 vs)
      | _ => .no
def boolOf : Vl → Option Bool
  | .dt (.bool b) => some b
  | _ => none
def itemsOf : D → Option (List D)
  | .list xs => some xs
  | .tuple xs => some xs
  | .str z => some (z.cps.toList.map fun c => .str ⟨#[c]⟩)
  | _ => none
def rangeD (lo hi : Int) : List D := (List.range (hi - lo).toNat).map fun (k : Nat) => .int (lo + k)
def rngB (i : Int) : Bool := decide (-(2 ^ 62) ≤ i) && decide (i < 2 ^ 62)
def zipD : List D → List D → List D
  | a :: as, b :: bs => .tuple [a, b] :: zipD as bs
  | _, _ => []
def enumD : Nat → List D → List D
  | _, [] => []
  | k, a :: as => .tuple [.int k, a] :: enumD (k + 1) as
def intVl (s : Sl) (v : Vl) : Option Int := match v.get s with | some (.int i) => some i | _ => none
def vlOf (b : Bool) (d : D) : Vl := if b then .nw d else .dt d

def gets (s : Sl) : List Vl → Option (List D)
  | [] => some []
  | v :: vs => match v.get s with
    | some d => match gets s vs with
      | some ds => some (d :: ds)
      | none => none
    | none => none
mutual
def ev (Φ : Env) : E → Sl → R Vl
  | .int i, s => .ok (.dt (.int i)) s
  | .bl b, s => .ok (.dt (.bool b)) s
  | .non, s => .ok (.dt .none) s
  | .str x, s => .ok (.dt (.str x)) s
  | .var i, s => match s[i]? with
    | some (.val d) => .ok (.dt d) s
    | some (.own _ _) => .ok (.br i) s
    | _ => .no
  | .glb k, s => .ok (.dt (Φ.glb k)) s
  | .bin op a b, s => match ev Φ a s with
    | .ok x s1 => match ev Φ b s1 with
      | .ok y s2 => match x.get s2, y.get s2 with
        | some dx, some dy => ofO (binD op dx dy) s2
        | _, _ => .no
      | .ex c args s2 => .ex c args s2
      | .no => .no
    | .ex c args s1 => .ex c args s1
    | .no => .no
  | .neg a, s => match ev Φ a s with
    | .ok x s1 => match x.get s1 with
      | some (.int i) => .ok (.dt (.int (-i))) s1
      | _ => .no
    | .ex c args s1 => .ex c args s1
    | .no => .no
  | .not a, s => match ev Φ a s with
    | .ok x s1 => match x with
      | .dt (.bool b) => .ok (.dt (.bool (!b))) s1
      | _ => .no
    | .ex c args s1 => .ex c args s1
    | .no => .no
  | .cmp op a b, s => match ev Φ a s with
    | .ok x s1 => match ev Φ b s1 with
      | .ok y s2 => match x.get s2, y.get s2 with
        | some dx, some dy => ofO ((cmpD op dx dy).map fun b => .dt (.bool b)) s2
        | _, _ => .no
      | .ex c args s2 => .ex c args s2
      | .no => .no
    | .ex c args s1 => .ex c args s1
    | .no => .no
  | .chain op op' a b c, s => match ev Φ a s with
    | .ok x s1 => match ev Φ b s1 with
      | .ok y s2 => match x.get s2, y.get s2 with
        | some dx, some dy => match cmpD op dx dy with
          | some true => match ev Φ c s2 with
            | .ok z s3 => match y.get s3, z.get s3 with
              | some dy', some dz => ofO ((cmpD op' dy' dz).map fun b => .dt (.bool b)) s3
              | _, _ => .no
            | .ex c args s2 => .ex c args s2
            | .no => .no
          | some false => .ok (.dt (.bool false)) s2
          | none => .no
        | _, _ => .no
      | .ex c args s2 => .ex c args s2
      | .no => .no
    | .ex c args s1 => .ex c args s1
    | .no => .no
  | .and es, s => evAnd Φ es s
  | .or es, s => evOr Φ es s
  | .ifx t a b, s => match ev Φ t s with
    | .ok (.dt (.bool true)) s1 => ev Φ a s1
    | .ok (.dt (.bool false)) s1 => ev Φ b s1
    | .ok _ _ => .no
    | .ex c args s1 => .ex c args s1
    | .no => .no
  | .tup es, s => match evs Φ es s with
    | .ok vs s1 => match escs s1 vs with
      | some (ds, s2) => if sizeB ds.length then .ok (.dt (.tuple ds)) s2 else .no
      | none => .no
    | .ex c args s1 => .ex c args s1
    | .no => .no
  | .lst es, s => match evs Φ es s with
    | .ok vs s1 => match escs s1 vs with
      | some (ds, s2) => if sizeB ds.length then .ok (.nw (.list ds)) s2 else .no
      | none => .no
    | .ex c args s1 => .ex c args s1
    | .no => .no
  | .ix a b, s => match ev Φ a s with
    | .ok x s1 => match ev Φ b s1 with
      | .ok y s2 => match x.get s2, y.get s2 with
        | some dx, some dy => ofO ((ixD dx dy).map .dt) s2
        | _, _ => .no
      | .ex c args s2 => .ex c args s2
      | .no => .no
    | .ex c args s1 => .ex c args s1
    | .no => .no
  | .slc a lo hi, s => match ev Φ a s with
    | .ok x s1 => match evo Φ lo s1 with
      | .ok l s2 => match evo Φ hi s2 with
        | .ok h s3 => match x.get s3 with
          | some dx => ofO (slcD dx l h) s3
          | none => .no
        | .ex c args s2 => .ex c args s2
        | .no => .no
      | .ex c args s2 => .ex c args s2
      | .no => .no
    | .ex c args s1 => .ex c args s1
    | .no => .no
  | .rev a lo hi, s => match ev Φ a s with
    | .ok x s1 => match x.get s1 with
      | some (.list ds) => .ok (.nw (.list (revD ds lo hi))) s1
      | _ => .no
    | .ex c args s1 => .ex c args s1
    | .no => .no
  | .call f es dv, s => match evs Φ es s with
    | .ok vs s1 => match escM (Φ.mask f) vs s1 with
      | some s2 => if mskOk s2 (Φ.mask f) vs then match gets s2 vs with
        | some ds => match Φ.fn f (ds ++ dv) with
          | some (.ok nw d outs) => match backL s2 (brs (Φ.mask f) vs) outs with
            | some s3 => .ok (vlOf nw d) s3
            | none => .no
          | some (.ex c args outs) => match backL s2 (brs (Φ.mask f) vs) outs with
            | some s3 => .ex c args s3
            | none => .no
          | none => .no
        | none => .no
        else .no
      | none => .no
    | .ex c args s1 => .ex c args s1
    | .no => .no
  | .blt b es, s => match evs Φ es s with
    | .ok vs s1 => match gets s1 vs with
      | some ds => ofO (bltD b ds) s1
      | none => .no
    | .ex c args s1 => .ex c args s1
    | .no => .no
  | .isT e t, s => match ev Φ e s with
    | .ok x s1 => match x.get s1 with
      | some d => ofO ((isTD d t).map fun b => .dt (.bool b)) s1
      | none => .no
    | .ex c args s1 => .ex c args s1
    | .no => .no
  | .isE i cs, s => match s[i]? with
    | some (.exn c _) => .ok (.dt (.bool (cs.any fun k => Φ.under k c))) s
    | _ => .no
  | .fld i j, s => match s[i]? with
    | some (.exn _ args) => match args[j]? with
      | some d => .ok (.dt d) s
      | none => .no
    | _ => .no
  | .lc elt tg it cond vs, s => match evIt Φ it s with
    | .ok ds s1 => if clean s1 vs then
        match lcGo vs (bindD tg) (fun s => evC Φ cond s) (fun s => ev Φ elt s) ds [] s1 with
        | .ok acc s2 => .ok (.nw (.list acc)) s2
        | _ => .no
      else .no
    | .ex c args s1 => .ex c args s1
    | .no => .no
  | .mth m i es, s => match s[i]? with
    | some (.own _ _) => match evs Φ es s with
      | .ok vs s1 => match escs s1 vs with
        | some (ds, s2) => match s2[i]? with
          | some (.own p (.list xs)) => match mthD m xs ds with
            | some (v, ys) => .ok (.dt v) (s2.set i (.own p (.list ys)))
            | none => .no
          | _ => .no
        | none => .no
      | .ex c args s1 => .ex c args s1
      | .no => .no
    | _ => .no
  | .tx m a b, s => match ev Φ a s with
    | .ok (.dt (.str z)) s1 => match ev Φ b s1 with
      | .ok y s2 => match y.get s2 with
        | some d => ofO (txD m z d) s2
        | none => .no
      | .ex c args s2 => .ex c args s2
      | .no => .no
    | .ok _ _ => .no
    | .ex c args s1 => .ex c args s1
    | .no => .no
def evs (Φ : Env) : Es → Sl → R (List Vl)
  | .nil, s => .ok [] s
  | .cons e es, s => match ev Φ e s with
    | .ok v s1 => match evs Φ es s1 with
      | .ok vs s2 => .ok (v :: vs) s2
      | .ex c args s2 => .ex c args s2
      | .no => .no
    | .ex c args s1 => .ex c args s1
    | .no => .no
def evAnd (Φ : Env) : Es → Sl → R Vl
  | .nil, _ => .no
  | .cons e .nil, s => match ev Φ e s with
    | .ok (.dt (.bool b)) s1 => .ok (.dt (.bool b)) s1
    | .ok _ _ => .no
    | .ex c args s1 => .ex c args s1
    | .no => .no
  | .cons e es, s => match ev Φ e s with
    | .ok (.dt (.bool true)) s1 => evAnd Φ es s1
    | .ok (.dt (.bool false)) s1 => .ok (.dt (.bool false)) s1
    | .ok _ _ => .no
    | .ex c args s1 => .ex c args s1
    | .no => .no
def evOr (Φ : Env) : Es → Sl → R Vl
  | .nil, _ => .no
  | .cons e .nil, s => match ev Φ e s with
    | .ok (.dt (.bool b)) s1 => .ok (.dt (.bool b)) s1
    | .ok _ _ => .no
    | .ex c args s1 => .ex c args s1
    | .no => .no
  | .cons e es, s => match ev Φ e s with
    | .ok (.dt (.bool false)) s1 => evOr Φ es s1
    | .ok (.dt (.bool true)) s1 => .ok (.dt (.bool true)) s1
    | .ok _ _ => .no
    | .ex c args s1 => .ex c args s1
    | .no => .no
def evo (Φ : Env) : Eo → Sl → R (Option Int)
  | .no, s => .ok none s
  | .so e, s => match ev Φ e s with
    | .ok (.dt (.int i)) s1 => .ok (some i) s1
    | .ok _ _ => .no
    | .ex c args s1 => .ex c args s1
    | .no => .no
/-- a comprehension's condition -/
def evC (Φ : Env) : Eo → Sl → R Bool
  | .no, s => .ok true s
  | .so e, s => match ev Φ e s with
    | .ok (.dt (.bool b)) s1 => .ok b s1
    | .ok _ _ => .no
    | .ex c args s1 => .ex c args s1
    | .no => .no
def evIt (Φ : Env) : It → Sl → R (List D)
  | .e e, s => match ev Φ e s with
    | .ok v s1 => match esc s1 v with
      | some (d, s2) => ofO (itemsOf d) s2
      | none => .no
    | .ex c args s1 => .ex c args s1
    | .no => .no
  | .rng1 a, s => match ev Φ a s with
    | .ok (.dt (.int i)) s1 => if rngB i then .ok (rangeD 0 i) s1 else .no
    | .ok _ _ => .no
    | .ex c args s1 => .ex c args s1
    | .no => .no
  | .rng2 a b, s => match ev Φ a s with
    | .ok (.dt (.int i)) s1 => match ev Φ b s1 with
      | .ok (.dt (.int j)) s2 => if rngB i && rngB j then .ok (rangeD i j) s2 else .no
      | .ok _ _ => .no
      | .ex c args s1 => .ex c args s1
      | .no => .no
    | .ok _ _ => .no
    | .ex c args s1 => .ex c args s1
    | .no => .no
  | .enm e, s => match ev Φ e s with
    | .ok v s1 => match esc s1 v with
      | some (.list xs, s2) => .ok (enumD 0 xs) s2
      | _ => .no
    | .ex c args s1 => .ex c args s1
    | .no => .no
  | .zip a b, s => match ev Φ a s with
    | .ok v s1 => match ev Φ b s1 with
      | .ok w s2 => match escs s2 [v, w] with
        | some ([.list xs, .list ys], s3) => .ok (zipD xs ys) s3
        | some ([.tuple xs, .tuple ys], s3) => .ok (zipD xs ys) s3
        | some ([.list xs, .tuple ys], s3) => .ok (zipD xs ys) s3
        | some ([.tuple xs, .list ys], s3) => .ok (zipD xs ys) s3
        | _ => .no
      | .ex c args s1 => .ex c args s1
      | .no => .no
    | .ex c args s1 => .ex c args s1
    | .no => .no
end

/-! ### statements -/
inductive Fl where
  | nx
  | rt (nw : Bool) (d : D)
  | bk
  | ct
def whlGo (tst : Sl → R Vl) (body : Sl → R Fl) : Nat → Sl → R Fl
  | 0, _ => .no
  | n + 1, s => match tst s with
    | .ok (.dt (.bool true)) s1 => match body s1 with
      | .ok .nx s2 => whlGo tst body n s2
      | .ok .ct s2 => whlGo tst body n s2
      | .ok .bk s2 => .ok .nx s2
      | .ok (.rt w d) s2 => .ok (.rt w d) s2
      | .ex c args s2 => .ex c args s2
      | .no => .no
    | .ok (.dt (.bool false)) s1 => .ok .nx s1
    | .ok _ _ => .no
    | .ex c args s1 => .ex c args s1
    | .no => .no
def forGo (t : Tg) (body : Sl → R Fl) : List D → Sl → R Fl
  | [], s => .ok .nx s
  | d :: ds, s => match bindD t d s with
    | none => .no
    | some s1 => match body s1 with
      | .ok .nx s2 => forGo t body ds s2
      | .ok .ct s2 => forGo t body ds s2
      | .ok .bk s2 => .ok .nx s2
      | .ok (.rt w d) s2 => .ok (.rt w d) s2
      | .ex c args s2 => .ex c args s2
      | .no => .no
def retV (s : Sl) : Vl → R Fl
  | .dt d => .ok (.rt false d) s
  | .nw d => .ok (.rt true d) s
  | .br i => match s[i]? with
    | some (.own false d) => .ok (.rt true d) s
    | some (.val d) => .ok (.rt false d) s
    | _ => .no
def noX (s : Sl) : Bool := s.all fun x => match x with
  | .exn _ _ => false
  | _ => true
def setIxR (Φ : Env) (i : Nat) (ix e : E) (s : Sl) : R Fl := match ev Φ e s with
    | .ok v s1 => match esc s1 v with
      | some (d, s2) => match s2[i]? with
        | some (.own _ _) => match ev Φ ix s2 with
          | .ok (.dt (.int k)) s3 => match s3[i]? with
            | some (.own p (.list xs)) => match L2.ixN xs.length k with
              | some j => .ok .nx (s3.set i (.own p (.list (xs.set j d))))
              | none => .no
            | _ => .no
          | .ok _ _ => .no
          | .ex c args s1 => .ex c args s1
          | .no => .no
        | _ => .no
      | none => .no
    | .ex c args s1 => .ex c args s1
    | .no => .no
/-! ### a suite that makes a list of lists and changes them by a second name -/
def intsAt (s : Sl) (i : Nat) : Option (List Int) := match s[i]? with
  | some (.own false (.list xs)) => intsOf xs
  | _ => none
def flipL (m : Int) (b : List Int) : Option (List Int) := match L2.ixN b.length m with
  | some j => (b[j]?).map fun x => b.set j (1 - x)
  | none => none
def flipsL (m : Int) : List (List Int) → Option (List (List Int))
  | [] => some []
  | b :: bs => match flipL m b with
    | some b' => match flipsL m bs with
      | some bs' => some (b' :: bs')
      | none => none
    | none => none
def kuhnA (Φ : Env) (iC iK : Nat) (e : E) : List D → List (List Int) → Sl → R (List (List Int))
  | [], acc, s => .ok acc s
  | d :: ds, acc, s => match bindD (.nm iK) d s with
    | none => .no
    | some s1 => match setIxR Φ iC e (.int 1) s1 with
      | .ok .nx s2 => match intsAt s2 iC with
        | some ns => if decide (acc.length < sizeLine) then kuhnA Φ iC iK e ds (acc ++ [ns]) s2 else .no
        | none => .no
      | _ => .no
def kuhnB (Φ : Env) (iC iM : Nat) (t : E) : List D → List (List Int) → Sl → R (List (List Int))
  | [], acc, s => .ok acc s
  | d :: ds, acc, s => match bindD (.nm iM) d s with
    | none => .no
    | some s1 => match ev Φ t s1 with
      | .ok (.dt (.bool true)) s2 => match s2[iM]? with
        | some (.val (.int m)) => if decide (iC < s2.length) then match flipsL m acc with
          | some acc' => kuhnB Φ iC iM t ds acc' (s2.set iC .no)
          | none => .no
          else .no
        | _ => .no
      | .ok (.dt (.bool false)) s2 => kuhnB Φ iC iM t ds acc s2
      | _ => .no
def listsD (acc : List (List Int)) : List D := acc.map fun b => .list (b.map .int)
def kuhnGo (Φ : Env) (iL iC iK iM : Nat) (e t : E) (s : Sl) : R Fl := match intsAt s iC with
  | some ns => if canSet s iL then match kuhnA Φ iC iK e (rangeD 0 3) [ns] (s.set iL .no) with
    | .ok acc s1 => match kuhnB Φ iC iM t (rangeD 0 3) acc s1 with
      | .ok acc s2 => .ok (.rt true (.list (listsD acc))) s2
      | _ => .no
    | _ => .no
    else .no
  | none => .no
def kuhnS (iL iC iK iM : Nat) (e t : E) : Ss :=
  .cons (.asg (.nm iL) (.lst (.cons (.blt .list (.cons (.var iC) .nil)) .nil)))
    (.cons (.for_ (.nm iK) (.rng1 (.int 3)) (.cons (.setIx iC e (.int 1)) (.cons (.expr (.mth .append iL (.cons (.blt .list (.cons (.var iC) .nil)) .nil))) .nil)))
    (.cons (.for_ (.nm iM) (.rng1 (.int 3)) (.cons (.ifs t (.cons (.for_ (.nm iC) (.e (.var iL)) (.cons (.setIx iC (.var iM) (.bin .sub (.int 1) (.ix (.var iC) (.var iM)))) .nil)) .nil) .nil) .nil))
    (.cons (.ret (.var iL)) .nil)))
def kuhnOf : Ss → Option (Nat × Nat × Nat × Nat × E × E)
  | .cons (.asg (.nm a1) (.lst (.cons (.blt .list (.cons (.var b1) .nil)) .nil)))
    (.cons (.for_ (.nm k1) (.rng1 (.int r1)) (.cons (.setIx b2 e (.int x1)) (.cons (.expr (.mth .append a2 (.cons (.blt .list (.cons (.var b3) .nil)) .nil))) .nil)))
    (.cons (.for_ (.nm m1) (.rng1 (.int r2)) (.cons (.ifs t (.cons (.for_ (.nm b4) (.e (.var a3)) (.cons (.setIx b5 (.var m2) (.bin .sub (.int x2) (.ix (.var b6) (.var m3)))) .nil)) .nil) .nil) .nil))
    (.cons (.ret (.var a4)) .nil))) =>
    if a1 = a2 ∧ a1 = a3 ∧ a1 = a4 ∧ b1 = b2 ∧ b1 = b3 ∧ b1 = b4 ∧ b1 = b5 ∧ b1 = b6 ∧ m1 = m2 ∧ m1 = m3 ∧ r1 = 3 ∧ r2 = 3 ∧ x1 = 1 ∧ x2 = 1 ∧ a1 ≠ b1 ∧ a1 ≠ k1 ∧ a1 ≠ m1 ∧ b1 ≠ k1 ∧ b1 ≠ m1 then some (a1, b1, k1, m1, e, t) else none
  | _ => none
theorem of_kuhn {b : Ss} {iL iC iK iM : Nat} {e t : E} (h : kuhnOf b = some (iL, iC, iK, iM, e, t)) : b = kuhnS iL iC iK iM e t ∧ iL ≠ iC ∧ iL ≠ iK ∧ iL ≠ iM ∧ iC ≠ iK ∧ iC ≠ iM := by
  unfold kuhnOf at h
  split at h
  · split at h
    · rename_i q
      cases h
      obtain ⟨rfl, rfl, rfl, rfl, rfl, rfl, rfl, rfl, rfl, rfl, rfl, rfl, rfl, rfl, h1, h2, h3, h4, h5⟩ := q
      exact ⟨rfl, h1, h2, h3, h4, h5⟩
    · cases h
  · cases h
def kuhnR (Φ : Env) (b : Ss) (s : Sl) : R Fl := match kuhnOf b with
  | some (iL, iC, iK, iM, e, t) => kuhnGo Φ iL iC iK iM e t s
  | none => .no
mutual
def run (Φ : Env) (n : Nat) : S → Sl → R Fl
  | .asg t e, s => match ev Φ e s with
    | .ok v s1 => match bindV t v s1 with
      | some s2 => .ok .nx s2
      | none => .no
    | .ex c args s1 => .ex c args s1
    | .no => .no
  | .par i j a b, s => match ev Φ a s with
    | .ok x s1 => match ev Φ b s1 with
      | .ok y s2 => match escs s2 [x, y] with
        | some ([dx, dy], s3) => if canSet s3 i && canSet s3 j then .ok .nx ((s3.set i (.val dx)).set j (.val dy)) else .no
        | _ => .no
      | .ex c args s1 => .ex c args s1
      | .no => .no
    | .ex c args s1 => .ex c args s1
    | .no => .no
  | .setIx i ix e, s => match ev Φ e s with
    | .ok v s1 => match esc s1 v with
      | some (d, s2) => match s2[i]? with
        | some (.own _ _) => match ev Φ ix s2 with
          | .ok (.dt (.int k)) s3 => match s3[i]? with
            | some (.own p (.list xs)) => match L2.ixN xs.length k with
              | some j => .ok .nx (s3.set i (.own p (.list (xs.set j d))))
              | none => .no
            | _ => .no
          | .ok _ _ => .no
          | .ex c args s1 => .ex c args s1
          | .no => .no
        | _ => .no
      | none => .no
    | .ex c args s1 => .ex c args s1
    | .no => .no
  | .aug i op e, s => match s[i]? with
    | some (.val (.int a)) => match ev Φ e s with
      | .ok (.dt (.int b)) s1 => match op with
        | .add => if canSet s1 i then .ok .nx (s1.set i (.val (.int (a + b)))) else .no
        | .sub => if canSet s1 i then .ok .nx (s1.set i (.val (.int (a - b)))) else .no
        | _ => .no
      | .ok _ _ => .no
      | .ex c args s1 => .ex c args s1
      | .no => .no
    | _ => .no
  | .expr e, s => match ev Φ e s with
    | .ok _ s1 => .ok .nx s1
    | .ex c args s1 => .ex c args s1
    | .no => .no
  | .ret e, s => match ev Φ e s with
    | .ok v s1 => retV s1 v
    | .ex c args s1 => .ex c args s1
    | .no => .no
  | .retN, s => .ok (.rt false .none) s
  | .pass, s => .ok .nx s
  | .brk, s => .ok .bk s
  | .cnt, s => .ok .ct s
  | .ifs t a b, s => match ev Φ t s with
    | .ok (.dt (.bool true)) s1 => runs Φ n a s1
    | .ok (.dt (.bool false)) s1 => runs Φ n b s1
    | .ok _ _ => .no
    | .ex c args s1 => .ex c args s1
    | .no => .no
  | .whl t b, s => whlGo (fun s => ev Φ t s) (fun s => runs Φ n b s) n s
  | .for_ t it b, s => match evIt Φ it s with
    | .ok ds s1 => forGo t (fun s => runs Φ n b s) ds s1
    | .ex c args s1 => .ex c args s1
    | .no => .no
  | .rais c es, s => match evs Φ es s with
    | .ok vs s1 => match escs s1 vs with
      | some (ds, s2) => .ex c ds s2
      | none => .no
    | .ex c args s1 => .ex c args s1
    | .no => .no
  | .try_ b hs, s => match runs Φ n b s with
    | .ok f s1 => .ok f s1
    | .ex c args s1 => runH Φ n hs c args s1
    | .no => .no
  | .stuck, _ => .no
  | .raisT c, s => .ex c [] s
def runs (Φ : Env) (n : Nat) : Ss → Sl → R Fl
  | .nil, s => .ok .nx s
  | .cons st ss, s => match run Φ n st s with
    | .ok .nx s1 => runs Φ n ss s1
    | .ok f s1 => .ok f s1
    | .ex c args s1 => .ex c args s1
    | .no => .no
  | .kuhn b, s => kuhnR Φ b s
def runH (Φ : Env) (n : Nat) : Hs → Nat → List D → Sl → R Fl
  | .nil, c, args, s => .ex c args s
  | .cons cs i b hs, c, args, s =>
    if cs.any fun k => Φ.under k c then
      match i with
      | none => match runs Φ n b s with
        | .ok f s1 => if noX s1 then .ok f s1 else .no
        | _ => .no
      | some i => if canSet s i then
          match runs Φ n b (s.set i (.exn c args)) with
          | .ok f s1 => if noX (s1.set i .no) then .ok f (s1.set i .no) else .no
          | _ => .no
        else .no
    else runH Φ n hs c args s
end
structure Fn where
  np : Nat
  ns : Nat
  mask : List Bool
  body : Ss
def start (mask : List Bool) : List D → Sl
  | [] => []
  | d :: ds => (if mask.headD false then .own true d else .val d) :: start mask.tail ds
def outsOf : List Bool → Sl → Option (List D)
  | [], _ => some []
  | true :: m, .own true d :: s => match outsOf m s with
    | some ds => some (d :: ds)
    | none => none
  | false :: m, _ :: s => outsOf m s
  | _, _ => none
def runFn (Φ : Env) (n : Nat) (f : Fn) (ds : List D) : Option Ret :=
  match runs Φ n f.body (start f.mask ds ++ List.replicate (f.ns - ds.length) .no) with
  | .ok .nx s => (outsOf f.mask s).map (.ok false .none)
  | .ok (.rt nw d) s => (outsOf f.mask s).map (.ok nw d)
  | .ok _ _ => none
  | .ex c args s => (outsOf f.mask s).map (.ex c args)
  | .no => none
end Mi

/-! MiZ: zip of lists and tuples, mixed. A flag tells the kind: false a list, true a tuple. -/
namespace Mi
open PySem PySem.Spec PyProof.Rows L2
def sqO (f : Bool) (hp : Heap) (a : Addr) (its : Array Value) : Prop := match f with
  | true => hp.IsTuple a its
  | false => hp.IsList a its
def itO (f : Bool) (hp : Heap) (j a : Addr) (i : Nat) : Prop := match f with
  | true => hp.IsTupleIter j a i
  | false => hp.IsListIter j a i
section
variable {f : Bool} {hp hp' : Heap} {a b j : Addr} {i : Nat} {its : Array Value}
theorem sqO.ext (g : sqO f hp a its) (e : Heap.ExtBut b hp hp') (n : a ≠ b) : sqO f hp' a its := by
  cases f with
  | true => exact Heap.IsTuple.extBut g e n
  | false => exact Heap.IsList.extBut g e n
theorem itO.ext (g : itO f hp j a i) (e : Heap.ExtBut b hp hp') (n : j ≠ b) : itO f hp' j a i := by
  cases f with
  | true => exact Heap.IsTupleIter.extBut g e n
  | false => exact Heap.IsListIter.extBut g e n
theorem itO.stay (g : itO f hp j a i) (e : ∀ o, hp.get? j = some o → hp'.get? j = some o) : itO f hp' j a i := by
  cases f with
  | true => obtain ⟨o, q, r⟩ := g; exact ⟨o, e o q, r⟩
  | false => obtain ⟨o, q, r⟩ := g; exact ⟨o, e o q, r⟩
theorem itO.ob (g : itO f hp j a i) : ∃ o, hp.get? j = some o ∧ ∀ v, o.data ≠ .cell v := by
  cases f with
  | true =>
    obtain ⟨o, e, _, d⟩ := g
    exact ⟨o, e, fun v q => by rw [d] at q; cases q⟩
  | false =>
    obtain ⟨o, e, _, d⟩ := g
    exact ⟨o, e, fun v q => by rw [d] at q; cases q⟩
theorem itO.lt (g : itO f hp j a i) : j < hp.objs.size := by
  obtain ⟨o, e, _⟩ := g.ob
  exact Heap.lt_size e
end
section
variable {prog : Program} {w : World} {A : Around} {E : Value → Shared → Prop} {s : Shared}
theorem nextO_item {f : Bool} {j l : Addr} {i : Nat} {its : Array Value} {x : Value} {Q : Value → Shared → Prop} (g : itO f s.heap j l i) (gl : sqO f s.heap l its) (e : its[i]? = some x)
    (q : ∀ hp, itO f hp j l (i + 1) → Heap.SameBut j s.heap hp → Q x { s with heap := hp }) : wpAny (model prog w) A (Builtin.SmallTypes.nextOf (.ref j)) Q E s := by
  cases f with
  | true => exact RZ.nextOf_tuple_item g gl e q
  | false => exact wpAny_nextOf_list_item g gl e q
theorem nextO_end {f : Bool} {j l : Addr} {i : Nat} {its : Array Value} {Q : Value → Shared → Prop} (hh : A.handled = none) (g : itO f s.heap j l i) (gl : sqO f s.heap l its) (e : its[i]? = none)
    (q : ∀ hp x, Heap.ExtBut j s.heap hp → (∃ o, hp.get? x = some o ∧ o.cls = .type "StopIteration") → E (.ref x) { s with heap := hp }) : wpAny (model prog w) A (Builtin.SmallTypes.nextOf (.ref j)) Q E s := by
  cases f with
  | true => exact RZ.nextOf_tuple_end hh g gl e q
  | false => exact wpAny_nextOf_list_end hh g gl e q
section
variable {f1 f2 : Bool} {zo pI pO j1 j2 m1 m2 : Addr} {k1 k2 : Nat} {us vs : Array Value} {u v c1 c2 : Value}
theorem zipO_item {Q : Value → Shared → Prop} (D : ZipApart zo pI pO j1 j2 m1 m2) (gz : IsZip s.heap zo pI pO .none) (gI : IsPair s.heap pI (.ref j1) (.ref j2)) (gO : IsPair s.heap pO c1 c2)
    (g1 : itO f1 s.heap j1 m1 k1) (g2 : itO f2 s.heap j2 m2 k2) (gm1 : sqO f1 s.heap m1 us) (gm2 : sqO f2 s.heap m2 vs) (eu : us[k1]? = some u) (ev : vs[k2]? = some v)
    (gq : ∀ hp, IsZip hp zo pI pO (rawInt s.heap.objs.size) → IsPair hp pO u v → itO f1 hp j1 m1 (k1 + 1) → itO f2 hp j2 m2 (k2 + 1) → IsPair hp s.heap.objs.size u v → hp.objs.size = s.heap.objs.size + 1 →
      (∀ y o, y ≠ zo → y ≠ pO → y ≠ j1 → y ≠ j2 → s.heap.get? y = some o → hp.get? y = some o) → Q (.ref s.heap.objs.size) { s with heap := hp }) :
    wpAny (model prog w) A (Builtin.«zip.__next__» ⟨[.ref zo], []⟩) (fun fin s' => ∃ r, fin = .done (.ret r) ∧ Q r s') E s := by
  show wpAny _ _ (field (.ref zo) 2 >>= _) _ _ _
  refine wpAny_bind (wpAny_field gz rfl (x := .bool false) rfl ?_)
  show wpAny _ _ (field (.ref zo) 3 >>= _) _ _ _
  refine wpAny_bind (wpAny_field gz rfl (x := .ref pI) rfl ?_)
  refine wpAny_bind (wpAny_seqItems gI rfl ?_)
  show wpAny _ _ (Builtin.SmallTypes.ownedTupleIsFree (.ref zo) >>= _) _ _ _
  refine wpAny_bind ?_
  unfold Builtin.SmallTypes.ownedTupleIsFree
  refine wpAny_bind (wpAny_field gz rfl (x := .none) rfl (wpAny_pure ?_))
  simp only [if_true]
  refine wpAny_bind (wpAny_rule ?_)
  refine wpAny_bind (wpAny_field gz rfl (x := .ref pO) rfl ?_)
  refine wpAny_bind (wpAny_setField_rec gz (by simp) fun h₁ gz₁ b₁ => ?_)
  replace gz₁ : IsZip h₁ zo pI pO .ellipsis := gz₁
  refine wpAny_bind ?_
  simp only [List.zipIdx_cons, List.zipIdx_nil, List.forIn_cons, List.forIn_nil]
  refine wpAny_bind (wpAny_bind (wpAny_onRaise ?_))
  show wpAny _ _ (Builtin.SmallTypes.nextOf (.ref j1) >>= _) _ _ _
  refine wpAny_bind (nextO_item (g1.ext b₁.extBut D.i1z) (gm1.ext b₁.extBut D.l1z) eu fun h₂ g1₂ b₂ => wpAny_pure ?_)
  have gO₂ : IsPair h₂ pO c1 c2 := b₂.extBut _ _ D.TOi1 (b₁.extBut _ _ D.TOz gO)
  refine wpAny_bind (wpAny_seqItems gO₂ rfl ?_)
  refine wpAny_bind (wpAny_updateSeq_pair gO₂ fun h₃ gO₃ b₃ => ?_)
  replace gO₃ : IsPair h₃ pO u c2 := gO₃
  refine wpAny_bind (wpAny_letGo (wpAny_pure ?_))
  refine wpAny_bind (wpAny_bind (wpAny_onRaise ?_))
  show wpAny _ _ (Builtin.SmallTypes.nextOf (.ref j2) >>= _) _ _ _
  refine wpAny_bind (nextO_item (((g2.ext b₁.extBut D.i2z).ext b₂.extBut D.i12.symm).ext b₃.extBut D.TOi2.symm)
    (((gm2.ext b₁.extBut D.l2z).ext b₂.extBut D.l2i1).ext b₃.extBut D.l2TO) ev fun h₄ g2₄ b₄ => wpAny_pure ?_)
  have gO₄ : IsPair h₄ pO u c2 := b₄.extBut _ _ D.TOi2 gO₃
  refine wpAny_bind (wpAny_seqItems gO₄ rfl ?_)
  refine wpAny_bind (wpAny_updateSeq_pair gO₄ fun h₅ gO₅ b₅ => ?_)
  replace gO₅ : IsPair h₅ pO u v := gO₅
  refine wpAny_bind (wpAny_letGo (wpAny_pure (wpAny_pure ?_)))
  refine wpAny_bind (wpAny_seqItems gO₅ rfl ?_)
  refine wpAny_bind (wpAny_newTuple ?_)
  have n5 : h₅.objs.size = s.heap.objs.size := by rw [b₅.1, b₄.1, b₃.1, b₂.1, b₁.1]
  have gz₅ : IsZip h₅ zo pI pO .ellipsis := b₅.extBut _ _ D.TOz.symm (b₄.extBut _ _ D.i2z.symm (b₃.extBut _ _ D.TOz.symm (b₂.extBut _ _ D.i1z.symm gz₁)))
  have st₅ : ∀ y o, y ≠ zo → y ≠ pO → y ≠ j1 → y ≠ j2 → s.heap.get? y = some o → h₅.get? y = some o := fun y o y1 y2 y3 y4 e =>
    b₅.extBut _ _ y2 (b₄.extBut _ _ y4 (b₃.extBut _ _ y2 (b₂.extBut _ _ y3 (b₁.extBut _ _ y1 e))))
  have g1₅ : itO f1 h₅ j1 m1 (k1 + 1) := ((g1₂.ext b₃.extBut D.TOi1.symm).ext b₄.extBut D.i12).ext b₅.extBut D.TOi1.symm
  have g2₅ : itO f2 h₅ j2 m2 (k2 + 1) := g2₄.ext b₅.extBut D.TOi2.symm
  have zlt : zo < h₅.objs.size := Heap.lt_size gz₅
  show wpAny _ _ (Builtin.SmallTypes.ownedTupleHandOut (.ref zo) (.ref h₅.objs.size) >>= _) _ _ _
  refine wpAny_bind ?_
  unfold Builtin.SmallTypes.ownedTupleHandOut
  have gz₆ : IsZip (h₅.push { cls := .type "tuple", data := .seq #[u, v] }) zo pI pO .ellipsis := Heap.get?_push_of_some _ gz₅
  refine wpAny_bind (wpAny_setField_rec gz₆ (by simp) fun h₇ gz₇ b₇ => ?_)
  replace gz₇ : IsZip h₇ zo pI pO (rawInt h₅.objs.size) := gz₇
  refine wpAny_setField_rec gz₇ (by simp) fun h₈ gz₈ b₈ => ?_
  replace gz₈ : IsZip h₈ zo pI pO (rawInt h₅.objs.size) := gz₈
  have up : ∀ y o, y ≠ zo → h₅.get? y = some o → h₈.get? y = some o := fun y o y1 e => b₈.extBut _ _ y1 (b₇.extBut _ _ y1 (Heap.get?_push_of_some _ e))
  have gT₈ : IsPair h₈ h₅.objs.size u v := b₈.extBut _ _ (Nat.ne_of_gt zlt) (b₇.extBut _ _ (Nat.ne_of_gt zlt) (Heap.get?_push_size _ rfl))
  have n8 : h₈.objs.size = h₅.objs.size + 1 := by rw [b₈.1, b₇.1, Heap.size_push]
  rw [n5] at gz₈ gT₈ n8
  refine wpAny_pure ⟨_, rfl, ?_⟩
  show Q (.ref h₅.objs.size) _
  rw [n5]
  exact gq h₈ gz₈ (up _ _ D.TOz gO₅) (g1₅.stay fun o e => up _ o D.i1z e) (g2₅.stay fun o e => up _ o D.i2z e) gT₈ n8 fun y o y1 y2 y3 y4 e => up y o y1 (st₅ y o y1 y2 y3 y4 e)
theorem zipO_end {Q : Fin → Shared → Prop} (hh : A.handled = none) (D : ZipApart zo pI pO j1 j2 m1 m2) (gz : IsZip s.heap zo pI pO .none) (gI : IsPair s.heap pI (.ref j1) (.ref j2)) (gO : IsPair s.heap pO c1 c2)
    (g1 : itO f1 s.heap j1 m1 k1) (g2 : itO f2 s.heap j2 m2 k2) (gm1 : sqO f1 s.heap m1 us) (gm2 : sqO f2 s.heap m2 vs) (en : us[k1]? = none ∨ vs[k2]? = none)
    (ge : ∀ hp x, (∀ y o, y ≠ zo → y ≠ pO → y ≠ j1 → y ≠ j2 → s.heap.get? y = some o → hp.get? y = some o) → (∃ o, hp.get? x = some o ∧ o.cls = .type "StopIteration") → E (.ref x) { s with heap := hp }) :
    wpAny (model prog w) A (Builtin.«zip.__next__» ⟨[.ref zo], []⟩) Q E s := by
  show wpAny _ _ (field (.ref zo) 2 >>= _) _ _ _
  refine wpAny_bind (wpAny_field gz rfl (x := .bool false) rfl ?_)
  show wpAny _ _ (field (.ref zo) 3 >>= _) _ _ _
  refine wpAny_bind (wpAny_field gz rfl (x := .ref pI) rfl ?_)
  refine wpAny_bind (wpAny_seqItems gI rfl ?_)
  show wpAny _ _ (Builtin.SmallTypes.ownedTupleIsFree (.ref zo) >>= _) _ _ _
  refine wpAny_bind ?_
  unfold Builtin.SmallTypes.ownedTupleIsFree
  refine wpAny_bind (wpAny_field gz rfl (x := .none) rfl (wpAny_pure ?_))
  simp only [if_true]
  refine wpAny_bind (wpAny_rule ?_)
  refine wpAny_bind (wpAny_field gz rfl (x := .ref pO) rfl ?_)
  refine wpAny_bind (wpAny_setField_rec gz (by simp) fun h₁ gz₁ b₁ => ?_)
  replace gz₁ : IsZip h₁ zo pI pO .ellipsis := gz₁
  refine wpAny_bind ?_
  simp only [List.zipIdx_cons, List.zipIdx_nil, List.forIn_cons, List.forIn_nil]
  refine wpAny_bind (wpAny_bind (wpAny_onRaise ?_))
  show wpAny _ _ (Builtin.SmallTypes.nextOf (.ref j1) >>= _) _ _ _
  cases eu : us[k1]? with
  | none =>
    refine wpAny_bind (nextO_end hh (g1.ext b₁.extBut D.i1z) (gm1.ext b₁.extBut D.l1z) eu fun h₂ x b₂ gx => ?_)
    obtain ⟨ox, gox, cx⟩ := gx
    have gz₂ : IsZip h₂ zo pI pO .ellipsis := b₂ _ _ D.i1z.symm gz₁
    have xz : x ≠ zo := fun y => by subst y; rw [gz₂] at gox; cases gox; simp at cx
    exact wpAny_setField_rec gz₂ (by simp) fun h₃ _ b₃ => ge h₃ x (fun y o y1 _ y3 _ e => b₃.extBut _ _ y1 (b₂ _ _ y3 (b₁.extBut _ _ y1 e))) ⟨ox, b₃.extBut _ _ xz gox, cx⟩
  | some u =>
    have ev : vs[k2]? = none := by
      rcases en with q | q
      · rw [eu] at q; cases q
      · exact q
    refine wpAny_bind (nextO_item (g1.ext b₁.extBut D.i1z) (gm1.ext b₁.extBut D.l1z) eu fun h₂ g1₂ b₂ => wpAny_pure ?_)
    have gO₂ : IsPair h₂ pO c1 c2 := b₂.extBut _ _ D.TOi1 (b₁.extBut _ _ D.TOz gO)
    refine wpAny_bind (wpAny_seqItems gO₂ rfl ?_)
    refine wpAny_bind (wpAny_updateSeq_pair gO₂ fun h₃ gO₃ b₃ => ?_)
    refine wpAny_bind (wpAny_letGo (wpAny_pure ?_))
    refine wpAny_bind (wpAny_bind (wpAny_onRaise ?_))
    show wpAny _ _ (Builtin.SmallTypes.nextOf (.ref j2) >>= _) _ _ _
    refine wpAny_bind (nextO_end hh (((g2.ext b₁.extBut D.i2z).ext b₂.extBut D.i12.symm).ext b₃.extBut D.TOi2.symm)
      (((gm2.ext b₁.extBut D.l2z).ext b₂.extBut D.l2i1).ext b₃.extBut D.l2TO) ev fun h₄ x b₄ gx => ?_)
    obtain ⟨ox, gox, cx⟩ := gx
    have gz₄ : IsZip h₄ zo pI pO .ellipsis := b₄ _ _ D.i2z.symm (b₃.extBut _ _ D.TOz.symm (b₂.extBut _ _ D.i1z.symm gz₁))
    have xz : x ≠ zo := fun y => by subst y; rw [gz₄] at gox; cases gox; simp at cx
    exact wpAny_setField_rec gz₄ (by simp) fun h₅ _ b₅ => ge h₅ x (fun y o y1 y2 y3 y4 e => b₅.extBut _ _ y1 (b₄ _ _ y4 (b₃.extBut _ _ y2 (b₂.extBut _ _ y3 (b₁.extBut _ _ y1 e))))) ⟨ox, b₅.extBut _ _ xz gox, cx⟩
theorem pyNextO_item {Q : Option Value → Shared → Prop} (D : ZipApart zo pI pO j1 j2 m1 m2) (gz : IsZip s.heap zo pI pO .none) (gI : IsPair s.heap pI (.ref j1) (.ref j2)) (gO : IsPair s.heap pO c1 c2)
    (g1 : itO f1 s.heap j1 m1 k1) (g2 : itO f2 s.heap j2 m2 k2) (gm1 : sqO f1 s.heap m1 us) (gm2 : sqO f2 s.heap m2 vs) (eu : us[k1]? = some u) (ev : vs[k2]? = some v)
    (gq : ∀ hp, IsZip hp zo pI pO (rawInt s.heap.objs.size) → IsPair hp pO u v → itO f1 hp j1 m1 (k1 + 1) → itO f2 hp j2 m2 (k2 + 1) → IsPair hp s.heap.objs.size u v → hp.objs.size = s.heap.objs.size + 1 →
      (∀ y o, y ≠ zo → y ≠ pO → y ≠ j1 → y ≠ j2 → s.heap.get? y = some o → hp.get? y = some o) → Q (some (.ref s.heap.objs.size)) { s with heap := hp }) :
    wpAny (model prog w) A (pyNext (.ref zo)) Q E s := by
  have gT : s.TypeIs (.ref zo) "zip" := ⟨_, gz, rfl⟩
  unfold pyNext
  exact wpAny_bind (wpAny_attempt (wpAny_callSpecial?_slot (name := Str.ofString "__next__") gT F.slot_zip_next
    (wpAny_call_entry F.slot_zip_next gT F.entry_zip_next (zipO_item D gz gI gO g1 g2 gm1 gm2 eu ev fun hp r1 r2 r3 r4 r5 r6 r7 => wpAny_pure (gq hp r1 r2 r3 r4 r5 r6 r7)) (F.args_zip_next_1 _))))
theorem pyNextO_end {Q : Option Value → Shared → Prop} (hh : A.handled = none) (D : ZipApart zo pI pO j1 j2 m1 m2) (gz : IsZip s.heap zo pI pO .none) (gI : IsPair s.heap pI (.ref j1) (.ref j2)) (gO : IsPair s.heap pO c1 c2)
    (g1 : itO f1 s.heap j1 m1 k1) (g2 : itO f2 s.heap j2 m2 k2) (gm1 : sqO f1 s.heap m1 us) (gm2 : sqO f2 s.heap m2 vs) (en : us[k1]? = none ∨ vs[k2]? = none)
    (gq : ∀ hp, (∀ y o, y ≠ zo → y ≠ pO → y ≠ j1 → y ≠ j2 → s.heap.get? y = some o → hp.get? y = some o) → Q none { s with heap := hp }) : wpAny (model prog w) A (pyNext (.ref zo)) Q E s := by
  have gT : s.TypeIs (.ref zo) "zip" := ⟨_, gz, rfl⟩
  unfold pyNext
  refine wpAny_bind (wpAny_attempt (wpAny_callSpecial?_slot (name := Str.ofString "__next__") gT F.slot_zip_next
    (wpAny_call_entry F.slot_zip_next gT F.entry_zip_next (zipO_end hh D gz gI gO g1 g2 gm1 gm2 en fun hp x st gx => ?_) (F.args_zip_next_1 _))))
  obtain ⟨o, go, gc⟩ := gx
  refine wpAny_bind (wpAny_isInstance (T := "StopIteration") (b := true) ⟨o, go, gc⟩ isSubtype_stop ?_)
  exact wpAny_pure (gq _ st)
end
end
abbrev kN (f : Bool) : String := match f with
  | true => "tuple_iterator"
  | false => "list_iterator"
abbrev zK1 (f : Bool) (h : Heap) (a : Addr) : Heap := h.push { cls := .type (kN f), data := .fields #[.ref a, .int 0 0] }
abbrev zK2 (f g : Bool) (h : Heap) (a b : Addr) : Heap := (zK1 f h a).push { cls := .type (kN g), data := .fields #[.ref b, .int 0 0] }
abbrev zK3 (f g : Bool) (h : Heap) (a b : Addr) : Heap := (zK2 f g h a b).push { cls := .type "tuple", data := .seq #[.ref h.objs.size, .ref (zK1 f h a).objs.size] }
abbrev zK4 (f g : Bool) (h : Heap) (a b : Addr) : Heap := (zK3 f g h a b).push { cls := .type "tuple", data := .seq #[.none, .none] }
abbrev zK5 (f g : Bool) (h : Heap) (a b : Addr) : Heap := (zK4 f g h a b).push { cls := .type "zip", data := .fields #[.none, .bool false, .bool false, .ref (zK2 f g h a b).objs.size, .ref (zK3 f g h a b).objs.size] }
theorem meets_zLT (a b : Addr) (us vs : Array Value) :
    Meets (Builtin.«zip.__new__» ⟨[.type "zip", .ref a, .ref b], []⟩) (fun _ R s => s.heap.IsList a us ∧ s.heap.IsTuple b vs ∧
      R (.ok (.ret (.ref (zK4 false true s.heap a b).objs.size))) { s with heap := zK5 false true s.heap a b }) :=
  .of_wp fun prog w A R s q => by
    obtain ⟨hp, gl, d, tk, os⟩ := s; obtain ⟨ga, gb, q⟩ := q
    have zsub := sub_zip
    have gA : Heap.IsList (Shared.heap ⟨hp, gl, d, tk, os⟩) a us := ga
    have gB : Heap.IsTuple (Shared.heap ⟨hp.push { cls := .type "list_iterator", data := .fields #[.ref a, .int 0 0] }, gl, d, tk, os⟩) b vs := Heap.IsTuple.push gb _
    wp_walk using wpAny_pyIter_list gA, wpAny_pyIter_tuple gB
    exact ⟨_, rfl, q⟩
theorem meets_zTL (a b : Addr) (us vs : Array Value) :
    Meets (Builtin.«zip.__new__» ⟨[.type "zip", .ref a, .ref b], []⟩) (fun _ R s => s.heap.IsTuple a us ∧ s.heap.IsList b vs ∧
      R (.ok (.ret (.ref (zK4 true false s.heap a b).objs.size))) { s with heap := zK5 true false s.heap a b }) :=
  .of_wp fun prog w A R s q => by
    obtain ⟨hp, gl, d, tk, os⟩ := s; obtain ⟨ga, gb, q⟩ := q
    have zsub := sub_zip
    have gA : Heap.IsTuple (Shared.heap ⟨hp, gl, d, tk, os⟩) a us := ga
    have gB : Heap.IsList (Shared.heap ⟨hp.push { cls := .type "tuple_iterator", data := .fields #[.ref a, .int 0 0] }, gl, d, tk, os⟩) b vs := Heap.IsList.push gb _
    wp_walk using wpAny_pyIter_tuple gA, wpAny_pyIter_list gB
    exact ⟨_, rfl, q⟩
section
variable {prog : Program} {w : World} {A : Around} {E : Value → Shared → Prop} {s : Shared}
theorem call_zipO {f g : Bool} {a b : Addr} {us vs : Array Value} {Q : Value → Shared → Prop} (ga : sqO f s.heap a us) (gb : sqO g s.heap b vs)
    (q : ∀ hp, IsZip hp (s.heap.objs.size + 4) (s.heap.objs.size + 2) (s.heap.objs.size + 3) .none → IsPair hp (s.heap.objs.size + 2) (.ref s.heap.objs.size) (.ref (s.heap.objs.size + 1)) →
      IsPair hp (s.heap.objs.size + 3) .none .none → itO f hp s.heap.objs.size a 0 → itO g hp (s.heap.objs.size + 1) b 0 → hp.objs.size = s.heap.objs.size + 5 →
      (∀ y o, s.heap.get? y = some o → hp.get? y = some o) → Q (.ref (s.heap.objs.size + 4)) { s with heap := hp }) : wpAny (model prog w) A (call (.type "zip") [.ref a, .ref b]) Q E s := by
  cases f with
  | false =>
    cases g with
    | false => exact call_zip_2 ga gb q
    | true =>
      refine callType_new F.called_zip (by decide) (F.typeCall_zip_2 _ _) (F.newCall_zip_2 _ _) (fun ob => F.args_object_init_3 ob _ _) F.entry_zip_new (meets_zLT a b us vs) ⟨ga, gb, ?_⟩
      have y1 : (zK1 false s.heap a).objs.size = s.heap.objs.size + 1 := Heap.size_push ..
      have y2 : (zK2 false true s.heap a b).objs.size = s.heap.objs.size + 2 := by rw [Heap.size_push, y1]
      have y3 : (zK3 false true s.heap a b).objs.size = s.heap.objs.size + 3 := by rw [Heap.size_push, y2]
      have y4 : (zK4 false true s.heap a b).objs.size = s.heap.objs.size + 4 := by rw [Heap.size_push, y3]
      have y5 : (zK5 false true s.heap a b).objs.size = s.heap.objs.size + 5 := by rw [Heap.size_push, y4]
      have p5 : (zK5 false true s.heap a b).get? (zK4 false true s.heap a b).objs.size = some _ := Heap.get?_push_size _ rfl
      have p4 : (zK5 false true s.heap a b).get? (zK3 false true s.heap a b).objs.size = some _ := Heap.get?_push_of_some _ (Heap.get?_push_size _ rfl)
      have p3 : (zK5 false true s.heap a b).get? (zK2 false true s.heap a b).objs.size = some _ := Heap.get?_push_of_some _ (Heap.get?_push_of_some _ (Heap.get?_push_size _ rfl))
      have p2 : (zK5 false true s.heap a b).get? (zK1 false s.heap a).objs.size = some _ := Heap.get?_push_of_some _ (Heap.get?_push_of_some _ (Heap.get?_push_of_some _ (Heap.get?_push_size _ rfl)))
      have p1 : (zK5 false true s.heap a b).get? s.heap.objs.size = some _ := Heap.get?_push_of_some _ (Heap.get?_push_of_some _ (Heap.get?_push_of_some _ (Heap.get?_push_of_some _ (Heap.get?_push_size _ rfl))))
      show _ ∧ _
      rw [y2, y3, y4] at p5
      rw [y1, y2] at p3
      rw [y3] at p4
      rw [y1] at p2
      rw [y4]
      exact ⟨⟨_, p5, rfl⟩, q _ p5 p3 p4 ⟨_, p1, rfl, rfl⟩ ⟨_, p2, rfl, rfl⟩ y5 fun y o e =>
        Heap.get?_push_of_some _ (Heap.get?_push_of_some _ (Heap.get?_push_of_some _ (Heap.get?_push_of_some _ (Heap.get?_push_of_some _ e))))⟩
  | true =>
    cases g with
    | true => exact RZ.call_zipT ga gb q
    | false =>
      refine callType_new F.called_zip (by decide) (F.typeCall_zip_2 _ _) (F.newCall_zip_2 _ _) (fun ob => F.args_object_init_3 ob _ _) F.entry_zip_new (meets_zTL a b us vs) ⟨ga, gb, ?_⟩
      have y1 : (zK1 true s.heap a).objs.size = s.heap.objs.size + 1 := Heap.size_push ..
      have y2 : (zK2 true false s.heap a b).objs.size = s.heap.objs.size + 2 := by rw [Heap.size_push, y1]
      have y3 : (zK3 true false s.heap a b).objs.size = s.heap.objs.size + 3 := by rw [Heap.size_push, y2]
      have y4 : (zK4 true false s.heap a b).objs.size = s.heap.objs.size + 4 := by rw [Heap.size_push, y3]
      have y5 : (zK5 true false s.heap a b).objs.size = s.heap.objs.size + 5 := by rw [Heap.size_push, y4]
      have p5 : (zK5 true false s.heap a b).get? (zK4 true false s.heap a b).objs.size = some _ := Heap.get?_push_size _ rfl
      have p4 : (zK5 true false s.heap a b).get? (zK3 true false s.heap a b).objs.size = some _ := Heap.get?_push_of_some _ (Heap.get?_push_size _ rfl)
      have p3 : (zK5 true false s.heap a b).get? (zK2 true false s.heap a b).objs.size = some _ := Heap.get?_push_of_some _ (Heap.get?_push_of_some _ (Heap.get?_push_size _ rfl))
      have p2 : (zK5 true false s.heap a b).get? (zK1 true s.heap a).objs.size = some _ := Heap.get?_push_of_some _ (Heap.get?_push_of_some _ (Heap.get?_push_of_some _ (Heap.get?_push_size _ rfl)))
      have p1 : (zK5 true false s.heap a b).get? s.heap.objs.size = some _ := Heap.get?_push_of_some _ (Heap.get?_push_of_some _ (Heap.get?_push_of_some _ (Heap.get?_push_of_some _ (Heap.get?_push_size _ rfl))))
      show _ ∧ _
      rw [y2, y3, y4] at p5
      rw [y1, y2] at p3
      rw [y3] at p4
      rw [y1] at p2
      rw [y4]
      exact ⟨⟨_, p5, rfl⟩, q _ p5 p3 p4 ⟨_, p1, rfl, rfl⟩ ⟨_, p2, rfl, rfl⟩ y5 fun y o e =>
        Heap.get?_push_of_some _ (Heap.get?_push_of_some _ (Heap.get?_push_of_some _ (Heap.get?_push_of_some _ (Heap.get?_push_of_some _ e))))⟩
end
/-! ### the walk -/
def SqK (f : Bool) (K : PySem.W.Frag) (H : Hp) (a : Addr) (xs : List V) : Prop := match f with
  | true => SqT K H a xs
  | false => SqL K H a xs
section
variable {X : Cx} {pins : List (Addr × Obj)} {σ : L2.St} {H : Hp} {s : Shared} {f : Bool} {a : Addr} {xs ys : List V}
theorem sqk_get (I : Inv X pins σ H s) (q : SqK f X.K H a xs) : ∃ its : List Value, Vals xs its ∧ sqO f s.heap a its.toArray := by
  cases f with
  | true =>
    obtain ⟨its, rv, p, _⟩ := I.tuple q
    exact ⟨its, rv, p⟩
  | false =>
    obtain ⟨its, rv, p, _⟩ := I.list q
    exact ⟨its, rv, p.isList⟩
theorem sqk_inj (I : Inv X pins σ H s) (q : SqK f X.K H a xs) (q' : SqK f X.K H a ys) : xs = ys := by
  cases f with
  | true => exact I.tuple_inj q q'
  | false => exact I.list_inj q q'
theorem sqO.lt {h : Heap} {its : Array Value} (q : sqO f h a its) : a < h.objs.size := by
  cases f with
  | true => obtain ⟨o, e, _⟩ := q; exact Heap.lt_size e
  | false => obtain ⟨o, e, _⟩ := q; exact Heap.lt_size e
end
/-- what stands at a and b at each turn, the items in new pairs -/
def Itk (K : PySem.W.Frag) (f g : Bool) (a b : Addr) : L2.It :=
  ⟨fun i H => ∃ (xs ys : List V) (x y : V), SqK f K H a xs ∧ SqK g K H b ys ∧ xs[i]? = some x ∧ ys[i]? = some y,
    fun i H v H' => ∃ p x y, v = .ref p ∧ H p = none ∧ H' = upd H p (.tup [x, y]) ∧ (∀ xs, SqK f K H a xs → xs[i]? = some x) ∧ ∀ ys, SqK g K H b ys → ys[i]? = some y,
    fun i H => ∃ xs ys : List V, SqK f K H a xs ∧ SqK g K H b ys ∧ (xs.length ≤ i ∨ ys.length ≤ i)⟩
theorem or5 {α : Type} {c a1 a2 a3 a4 a5 : α} (h : c ∈ [a1, a2, a3, a4, a5]) : c = a1 ∨ c = a2 ∨ c = a3 ∨ c = a4 ∨ c = a5 := by simpa using h
theorem turn_zipO {P : Program} {w : World} {K : PySem.W.Frag} {elts : List Expr} {kk : Nat} {tpos : Pos} {f g : Bool} {a b zo pI pO j1 j2 : Addr} (D : ZipApart zo pI pO j1 j2 a b) :
    Turn P w K (.Tuple elts kk tpos) (Itk K f g a b) [zo, pI, pO, j1, j2] zo (fun i h => IsZip h zo pI pO .none ∧ IsPair h pI (.ref j1) (.ref j2) ∧ (∃ x y, IsPair h pO x y) ∧ itO f h j1 a i ∧ itO g h j2 b i) where
  mem := by simp
  obj := fun i h st c hc => by
    obtain ⟨gz, gI, ⟨x, y, gO⟩, g1, g2⟩ := st
    rcases or5 hc with q | q | q | q | q
    · rw [q]; exact ⟨_, gz, fun v q => nomatch q⟩
    · rw [q]; exact ⟨_, gI, fun v q => nomatch q⟩
    · rw [q]; exact ⟨_, gO, fun v q => nomatch q⟩
    · rw [q]; exact g1.ob
    · rw [q]; exact g2.ob
  keep := fun i h h' st k => by
    obtain ⟨gz, gI, ⟨x, y, gO⟩, g1, g2⟩ := st
    exact ⟨k zo (by simp) _ gz, k pI (by simp) _ gI, ⟨x, y, k pO (by simp) _ gO⟩, g1.stay fun o q => k j1 (by simp) o q, g2.stay fun o q => k j2 (by simp) o q⟩
  item := by
    intro X eP ew eK ec i pins s σ H E I fp st go
    subst eP ew eK
    obtain ⟨gz, gI, ⟨x0, y0, gO⟩, g1, g2⟩ := st
    obtain ⟨xs, ys, x, y, qx, qy, hx, hy⟩ := go
    obtain ⟨us, ru, pu⟩ := sqk_get I qx
    obtain ⟨vs, rv, pv⟩ := sqk_get I qy
    obtain ⟨u, hu, ru1⟩ := ru.get hx
    obtain ⟨v, hv, rv1⟩ := rv.get hy
    have zlt : zo < s.heap.objs.size := Heap.lt_size gz
    refine pyNextO_item D gz gI gO g1 g2 pu pv (u := u) (v := v) (by simpa using hu) (by simpa using hv) fun hp z' O' g1' g2' gT n st => ?_
    refine ⟨_, rfl, wpAny_letOwnedTupleGo_zip (s := { s with heap := hp }) z' fun hq z'' sb => ?_⟩
    have gT2 : hq.get? s.heap.objs.size = some { cls := .type "tuple", data := .seq #[u, v] } := (sb.2 _ (Nat.ne_of_gt zlt)).trans gT
    have new : ObjOk X.prog X.w (upd H s.heap.objs.size (.tup [x, y])) hq s.heap.objs.size (.tup [x, y]) :=
      ⟨by show 2 ≤ sizeLine; decide, [u, v], .cons ru1 (.cons rv1 .nil), ⟨_, gT2, rfl, _, rfl⟩⟩
    have I1 : Inv X pins σ (upd H s.heap.objs.size (.tup [x, y])) { s with heap := hq } :=
      I.turnedNew (t' := s.toks) (ch := [zo, pI, pO, j1, j2]) (fun c o nb q => (sb.2 c (fun e => nb (by simp [e]))).trans (st c o (fun e => nb (by simp [e])) (fun e => nb (by simp [e])) (fun e => nb (by simp [e])) (fun e => nb (by simp [e])) q)) fp (Nat.le_refl _) new
    refine ⟨.ref s.heap.objs.size, _, I1, rfl, ⟨_, x, y, rfl, I.hok.fresh (Nat.le_refl _), rfl, fun l hl => by rw [sqk_inj I hl qx]; exact hx, fun l hl => by rw [sqk_inj I hl qy]; exact hy⟩, ⟨z'', ?_, ⟨u, v, ?_⟩, ?_, ?_⟩, fun c hc => ?_⟩
    · exact (sb.2 _ D.TIz).trans (st _ _ D.TIz D.TITO D.TIi1 D.TIi2 gI)
    · exact (sb.2 _ D.TOz).trans O'
    · exact g1'.stay fun o q => (sb.2 _ D.i1z).trans q
    · exact g2'.stay fun o q => (sb.2 _ D.i2z).trans q
    · have lt : c < s.heap.objs.size := by
        rcases or5 hc with q | q | q | q | q
        · rw [q]; exact zlt
        · rw [q]; exact Heap.lt_size gI
        · rw [q]; exact Heap.lt_size gO
        · rw [q]; exact g1.lt
        · rw [q]; exact g2.lt
      rw [upd_ne (Nat.ne_of_lt lt)]
      exact (fp c hc).1
  done := by
    intro X eP ew eK ec i pins s σ H E I fp st go
    subst eP ew eK
    obtain ⟨gz, gI, ⟨x0, y0, gO⟩, g1, g2⟩ := st
    obtain ⟨xs, ys, qx, qy, en⟩ := go
    obtain ⟨us, ru, pu⟩ := sqk_get I qx
    obtain ⟨vs, rv, pv⟩ := sqk_get I qy
    have l1 := ru.length
    have l2 := rv.length
    have none_ : us.toArray[i]? = none ∨ vs.toArray[i]? = none := by
      rcases en with q | q
      · exact .inl (by simp; omega)
      · exact .inr (by simp; omega)
    exact pyNextO_end (I.ok.hd ec) D gz gI gO g1 g2 pu pv none_ fun hp st => ⟨rfl, I.turnedL (t' := s.toks) (ch := [zo, pI, pO, j1, j2]) (fun c o nb q =>
      st c o (fun e => nb (by simp [e])) (fun e => nb (by simp [e])) (fun e => nb (by simp [e])) (fun e => nb (by simp [e])) q) fp⟩
  self := fun A i s Q E st q => wpAny_pyIter_zip st.1 q
def iZipO (K : PySem.W.Frag) (ta : TA) : TI := fun σ H R => ta σ H fun vs H1 => ∃ a b xs ys f g, vs = [.ref a, .ref b] ∧ SqK f K H1 a xs ∧ SqK g K H1 b ys ∧ R (Itk K f g a b) H1
theorem pi_zipO {X : Cx} {e e2 : Expr} {ta : TA} {p pos tpos : Pos} {elts : List Expr} {kk : Nat} (hg : Gl X "zip") (hm : X.mg "zip" = none) (ha : PA X [e, e2] ta)
    (n1 : starEach [e, e2] X.env = (false, eval e X.env) :: starEach [e2] X.env := by rfl) (n2 : (backTo pos (starEach [e2] X.env)).any (·.1) = false := by rfl) :
    PI X (.Tuple elts kk tpos) (.Call (.Name "zip" p) [e, e2] [] pos) (iZipO X.K ta) := by
  refine ⟨fun pins s σ H R I h => ?_⟩
  refine Call_ (ld_blt I hg hm PyProof.Rows.boot_zip (PyProof.Rows.callWith_type1 (thn (ha.run pos pins s σ H _ I h) fun us s1 ⟨vs, H1, I1, r1, q1⟩ => ?_) n1 n2))
  obtain ⟨a, b, xs, ys, f, g, rfl, qx, qy, q⟩ := q1
  cases r1 with
  | cons ra rr =>
    cases rr with
    | cons rb rr =>
      cases rr
      cases ra
      cases rb
      obtain ⟨us, ru, pu⟩ := sqk_get I1 qx
      obtain ⟨ws, rw', pw⟩ := sqk_get I1 qy
      refine call_zipO pu pw fun hp gz gI gO g1 g2 n st => wpAny_pyIter_zip gz ?_
      have I2 : Inv X pins σ H1 { s1 with heap := hp } := I1.kept (t' := s1.toks) st
      refine ⟨s1.heap.objs.size + 4, [s1.heap.objs.size + 4, s1.heap.objs.size + 2, s1.heap.objs.size + 3, s1.heap.objs.size, s1.heap.objs.size + 1], _, _, H1, rfl, I2, turn_zipO (PySem.W.ktu_apart s1.heap.objs.size a b pu.lt pw.lt), ⟨gz, gI, ⟨_, _, gO⟩, g1, g2⟩, fun c hc => ?_, q⟩
      have le : s1.heap.objs.size ≤ c := by
        rcases or5 hc with e | e | e | e | e
        · rw [e]; exact Nat.le_add_right _ _
        · rw [e]; exact Nat.le_add_right _ _
        · rw [e]; exact Nat.le_add_right _ _
        · rw [e]; exact Nat.le_refl _
        · rw [e]; exact Nat.le_add_right _ _
      exact I1.fpOk le (I1.hok.fresh le)
end Mi

/-! Mi1: how the data lies in the heap, what a state of the interpreter says of the machine's. -/
namespace Mi
open PySem PySem.Spec PyProof.Rows L2

def KL (K : PySem.W.Frag) (a : Addr) (xs : List V) : Prop :=
  ∃ (o : Obj) (its : Array Value) (n : Nat), K.lookup a = some o ∧ o.cls = .type "list" ∧ o.dict = none ∧ o.data = .seq its n ∧ its.size ≤ sizeLine ∧ Vals xs its.toList
def KT (K : PySem.W.Frag) (a : Addr) (xs : List V) : Prop :=
  ∃ (o : Obj) (its : Array Value) (n : Nat), K.lookup a = some o ∧ o.cls = .type "tuple" ∧ o.data = .seq its n ∧ its.size ≤ sizeLine ∧ Vals xs its.toList
mutual
/-- v bears d, by objects outside of A -/
inductive Rp (A : Addr → Prop) (K : PySem.W.Frag) (H : Hp) : V → D → Prop
  | non : Rp A K H .non .none
  | bl (b : Bool) : Rp A K H (.bl b) (.bool b)
  | int (i : Int) : Rp A K H (.int i) (.int i)
  | str (x : Str) : Rp A K H (.str x) (.str x)
  | lst {a : Addr} {xs : List V} {ds : List D} : H a = some (.lst xs) → ¬ A a → RpAll A K H xs ds → Rp A K H (.ref a) (.list ds)
  | frz {a : Addr} {xs : List V} {ds : List D} : Rd H a (.lst xs) → ¬ A a → RpAll A K H xs ds → Rp A K H (.ref a) (frzD ds)
  | frzK {a : Addr} {xs : List V} {ds : List D} : KL K a xs → RpAll A K H xs ds → Rp A K H (.ref a) (frzD ds)
  | tup {a : Addr} {xs : List V} {ds : List D} : Rd H a (.tup xs) → ¬ A a → RpAll A K H xs ds → Rp A K H (.ref a) (.tuple ds)
  | tupK {a : Addr} {xs : List V} {ds : List D} : KT K a xs → RpAll A K H xs ds → Rp A K H (.ref a) (.tuple ds)
inductive RpAll (A : Addr → Prop) (K : PySem.W.Frag) (H : Hp) : List V → List D → Prop
  | nil : RpAll A K H [] []
  | cons {v : V} {vs : List V} {d : D} {ds : List D} : Rp A K H v d → RpAll A K H vs ds → RpAll A K H (v :: vs) (d :: ds)
end
section
variable {A A' : Addr → Prop} {K : PySem.W.Frag} {H H' : Hp}
theorem rd_mono {a : Addr} {u : HO} (f : ∀ b o, H b = some o → ¬ A b → H' b = some o) (h : Rd H a u) (n : ¬ A a) : Rd H' a u := by
  rcases h with h | ⟨o, h⟩
  · exact .inl (f _ _ h n)
  · exact .inr ⟨o, f _ _ h n⟩
theorem rd_no {a : Addr} {u : HO} (g : ∀ b, A' b → A b ∨ H b = none) (h : Rd H a u) (n : ¬ A a) : ¬ A' a := fun q => by
  rcases g a q with z | z
  · exact n z
  · rcases h with h | ⟨o, h⟩ <;> (rw [h] at z; cases z)
mutual
theorem Rp.mono (f : ∀ b o, H b = some o → ¬ A b → H' b = some o) (g : ∀ b, A' b → A b ∨ H b = none) : ∀ {v : V} {d : D}, Rp A K H v d → Rp A' K H' v d
  | _, _, .non => .non
  | _, _, .bl b => .bl b
  | _, _, .int i => .int i
  | _, _, .str x => .str x
  | _, _, .lst h n r => .lst (f _ _ h n) (rd_no g (.inl h) n) (RpAll.mono f g r)
  | _, _, .frz h n r => .frz (rd_mono f h n) (rd_no g h n) (RpAll.mono f g r)
  | _, _, .frzK h r => .frzK h (RpAll.mono f g r)
  | _, _, .tup h n r => .tup (rd_mono f h n) (rd_no g h n) (RpAll.mono f g r)
  | _, _, .tupK h r => .tupK h (RpAll.mono f g r)
theorem RpAll.mono (f : ∀ b o, H b = some o → ¬ A b → H' b = some o) (g : ∀ b, A' b → A b ∨ H b = none) : ∀ {vs : List V} {ds : List D}, RpAll A K H vs ds → RpAll A' K H' vs ds
  | _, _, .nil => .nil
  | _, _, .cons h r => .cons (Rp.mono f g h) (RpAll.mono f g r)
end
theorem Rp.weak (g : ∀ b, A' b → A b) {v : V} {d : D} (h : Rp A K H v d) : Rp A' K H v d := h.mono (fun _ _ e _ => e) fun b q => .inl (g b q)
theorem RpAll.weak (g : ∀ b, A' b → A b) {v : List V} {d : List D} (h : RpAll A K H v d) : RpAll A' K H v d := h.mono (fun _ _ e _ => e) fun b q => .inl (g b q)
theorem RpAll.length : ∀ {vs : List V} {ds : List D}, RpAll A K H vs ds → vs.length = ds.length
  | _, _, .nil => rfl
  | _, _, .cons _ r => congrArg (· + 1) r.length
theorem RpAll.append : ∀ {vs ws : List V} {ds es : List D}, RpAll A K H vs ds → RpAll A K H ws es → RpAll A K H (vs ++ ws) (ds ++ es)
  | _, _, _, _, .nil, q => q
  | _, _, _, _, .cons h r, q => .cons h (r.append q)
theorem RpAll.drop : ∀ (n : Nat) {vs : List V} {ds : List D}, RpAll A K H vs ds → RpAll A K H (vs.drop n) (ds.drop n)
  | 0, _, _, r => r
  | _ + 1, _, _, .nil => .nil
  | n + 1, _, _, .cons _ r => r.drop n
theorem RpAll.take : ∀ (n : Nat) {vs : List V} {ds : List D}, RpAll A K H vs ds → RpAll A K H (vs.take n) (ds.take n)
  | 0, _, _, _ => .nil
  | _ + 1, _, _, .nil => .nil
  | n + 1, _, _, .cons h r => .cons h (r.take n)
theorem RpAll.get : ∀ {vs : List V} {ds : List D} {i : Nat} {d : D}, RpAll A K H vs ds → ds[i]? = some d → ∃ v, vs[i]? = some v ∧ Rp A K H v d
  | _, _, _, _, .nil, e => by simp at e
  | _, _, 0, _, .cons h _, e => by simp at e; subst e; exact ⟨_, rfl, h⟩
  | _, _, i + 1, d, .cons _ r, e => by
    obtain ⟨v, h1, h2⟩ := r.get (i := i) (d := d) (by simpa using e)
    exact ⟨v, by simpa using h1, h2⟩
theorem RpAll.get' : ∀ {vs : List V} {ds : List D} {i : Nat} {v : V}, RpAll A K H vs ds → vs[i]? = some v → ∃ d, ds[i]? = some d ∧ Rp A K H v d
  | _, _, _, _, .nil, e => by simp at e
  | _, _, 0, _, .cons h _, e => by simp at e; subst e; exact ⟨_, rfl, h⟩
  | _, _, i + 1, d, .cons _ r, e => by
    obtain ⟨v, h1, h2⟩ := r.get' (i := i) (v := d) (by simpa using e)
    exact ⟨v, by simpa using h1, h2⟩
theorem RpAll.set {v : V} {d : D} (h : Rp A K H v d) : ∀ (i : Nat) {vs : List V} {ds : List D}, RpAll A K H vs ds → RpAll A K H (vs.set i v) (ds.set i d)
  | _, _, _, .nil => .nil
  | 0, _, _, .cons _ r => .cons h r
  | i + 1, _, _, .cons q r => .cons q (r.set h i)
theorem RpAll.erase : ∀ (i : Nat) {vs : List V} {ds : List D}, RpAll A K H vs ds → RpAll A K H (vs.eraseIdx i) (ds.eraseIdx i)
  | _, _, _, .nil => .nil
  | 0, _, _, .cons _ r => r
  | i + 1, _, _, .cons q r => .cons q (r.erase i)
theorem RpAll.dropLast {vs : List V} {ds : List D} (r : RpAll A K H vs ds) : RpAll A K H vs.dropLast ds.dropLast := by
  rw [List.dropLast_eq_take, List.dropLast_eq_take, r.length]
  exact r.take _
theorem RpAll.reverse {vs : List V} {ds : List D} (r : RpAll A K H vs ds) : RpAll A K H vs.reverse ds.reverse := by
  induction vs generalizing ds with
  | nil => cases r; exact .nil
  | cons v vs ih =>
    cases r with
    | cons h r =>
      rw [List.reverse_cons, List.reverse_cons]
      exact (ih r).append (.cons h .nil)
theorem RpAll.rep {vs : List V} {ds : List D} (r : RpAll A K H vs ds) : ∀ k : Nat, RpAll A K H (List.replicate k vs).flatten (List.replicate k ds).flatten
  | 0 => .nil
  | k + 1 => by
    rw [List.replicate_succ, List.replicate_succ, List.flatten_cons, List.flatten_cons]
    exact r.append (r.rep k)
mutual
def noF : D → Bool
  | .dict _ => false
  | .list ds => noFs ds
  | .tuple ds => noFs ds
  | _ => true
def noFs : List D → Bool
  | [] => true
  | d :: ds => noF d && noFs ds
end
mutual
theorem noF_lay : ∀ {d : D}, d.canLay0 = true → noF d = true
  | .none, _ => rfl
  | .bool _, _ => rfl
  | .int _, _ => rfl
  | .str _, _ => rfl
  | .list ds, h => noFs_lay (ds := ds) (by simpa [PyData.canLay0] using h)
  | .tuple ds, h => noFs_lay (ds := ds) (by simpa [PyData.canLay0] using h)
  | .dict _, h => by simp [PyData.canLay0] at h
theorem noFs_lay : ∀ {ds : List D}, PyData.canLayAll0 ds = true → noFs ds = true
  | [], _ => rfl
  | d :: ds, h => by
    simp only [PyData.canLayAll0, Bool.and_eq_true] at h
    simp only [noFs, Bool.and_eq_true]
    exact ⟨noF_lay h.1, noFs_lay h.2⟩
end
mutual
theorem Rp.dp : ∀ {v : V} {d : D}, Rp A K H v d → noF d = true → Dp K H v d
  | _, _, .non, _ => .non
  | _, _, .bl b, _ => .bl b
  | _, _, .int i, _ => .int i
  | _, _, .str x, _ => .str x
  | _, _, .lst h _ r, e => .lst (.inl (.inl h)) (RpAll.dp r (by simpa [noF] using e))
  | _, _, .frz h _ r, e => by simp [frzD, noF] at e
  | _, _, .frzK h r, e => by simp [frzD, noF] at e
  | _, _, .tup h _ r, e => .tup (.inl h) (RpAll.dp r (by simpa [noF] using e))
  | _, _, .tupK h r, e => .tup (.inr h) (RpAll.dp r (by simpa [noF] using e))
theorem RpAll.dp : ∀ {vs : List V} {ds : List D}, RpAll A K H vs ds → noFs ds = true → DpAll K H vs ds
  | _, _, .nil, _ => .nil
  | _, _, .cons h r, e => by
    simp only [noFs, Bool.and_eq_true] at e
    exact .cons (Rp.dp h e.1) (RpAll.dp r e.2)
end
theorem Rp.int_inv {v : V} {i : Int} (h : Rp A K H v (.int i)) : v = .int i := by cases h; rfl
theorem Rp.bl_inv {v : V} {b : Bool} (h : Rp A K H v (.bool b)) : v = .bl b := by cases h; rfl
theorem Rp.str_inv {v : V} {x : Str} (h : Rp A K H v (.str x)) : v = .str x := by cases h; rfl
theorem Rp.non_inv {v : V} (h : Rp A K H v .none) : v = .non := by cases h; rfl
theorem Rp.tup_inv {v : V} {ds : List D} (h : Rp A K H v (.tuple ds)) : ∃ a xs, v = .ref a ∧ SqT K H a xs ∧ RpAll A K H xs ds := by
  cases h with
  | tup h _ r => exact ⟨_, _, rfl, .inl h, r⟩
  | tupK h r => exact ⟨_, _, rfl, .inr h, r⟩
theorem RpAll.ints : ∀ {vs : List V} {ds : List D} {ns : List Int}, RpAll A K H vs ds → intsOf ds = some ns → vs = ns.map V.int
  | _, _, _, .nil, e => by cases e; rfl
  | _, d :: ds, ns, .cons h r, e => by
    cases d with
    | int i =>
      cases q : intsOf ds with
      | none => simp [intsOf, q] at e
      | some ms =>
        simp [intsOf, q] at e
        subst e
        rw [h.int_inv, r.ints q]
        rfl
    | _ => simp [intsOf] at e
theorem RpAll.bls : ∀ {vs : List V} {ds : List D} {ns : List Bool}, RpAll A K H vs ds → blsOf ds = some ns → vs = ns.map V.bl
  | _, _, _, .nil, e => by cases e; rfl
  | _, d :: ds, ns, .cons h r, e => by
    cases d with
    | bool i =>
      cases q : blsOf ds with
      | none => simp [blsOf, q] at e
      | some ms =>
        simp [blsOf, q] at e
        subst e
        rw [h.bl_inv, r.bls q]
        rfl
    | _ => simp [blsOf] at e
end

/-! ### what a slot's own list is; the read side of a value -/
def OwnOk (A : Addr → Prop) (K : PySem.W.Frag) (H : Hp) (a : Addr) (d : D) : Prop := ∃ ds xs, d = .list ds ∧ H a = some (.lst xs) ∧ RpAll A K H xs ds
/-- it may be read: its items are outside of A, it itself may be in A -/
def Rt (A : Addr → Prop) (K : PySem.W.Frag) (H : Hp) (v : V) (d : D) : Prop := Rp A K H v d ∨ ∃ a, v = .ref a ∧ OwnOk A K H a d
section
variable {A A' : Addr → Prop} {K : PySem.W.Frag} {H H' : Hp} {v : V}
theorem OwnOk.mono {a : Addr} {d : D} (f : ∀ b o, H b = some o → ¬ A b → H' b = some o) (g : ∀ b, A' b → A b ∨ H b = none) (e : H' a = H a) (h : OwnOk A K H a d) : OwnOk A' K H' a d := by
  obtain ⟨ds, xs, rfl, h, r⟩ := h
  exact ⟨ds, xs, rfl, by rw [e]; exact h, r.mono f g⟩
theorem Rt.int_inv {i : Int} (h : Rt A K H v (.int i)) : v = .int i := by
  rcases h with h | ⟨a, _, ds, xs, e, _⟩
  · exact h.int_inv
  · cases e
theorem Rt.bl_inv {i : Bool} (h : Rt A K H v (.bool i)) : v = .bl i := by
  rcases h with h | ⟨a, _, ds, xs, e, _⟩
  · exact h.bl_inv
  · cases e
theorem Rt.str_inv {i : Str} (h : Rt A K H v (.str i)) : v = .str i := by
  rcases h with h | ⟨a, _, ds, xs, e, _⟩
  · exact h.str_inv
  · cases e
theorem Rt.non_inv (h : Rt A K H v .none) : v = .non := by
  rcases h with h | ⟨a, _, ds, xs, e, _⟩
  · exact h.non_inv
  · cases e
theorem Rt.lst_inv {ds : List D} (h : Rt A K H v (.list ds)) : ∃ a xs, v = .ref a ∧ H a = some (.lst xs) ∧ RpAll A K H xs ds := by
  rcases h with h | ⟨a, rfl, ds, xs, e, h, r⟩
  · cases h with
    | lst h _ r => exact ⟨_, _, rfl, h, r⟩
  · cases e
    exact ⟨_, _, rfl, h, r⟩
theorem Rt.frz_inv {ds : List D} (h : Rt A K H v (frzD ds)) : ∃ a xs, v = .ref a ∧ SqL K H a xs ∧ RpAll A K H xs ds := by
  rcases h with h | ⟨a, rfl, ds', xs, e, h, r⟩
  · generalize e : frzD ds = d at h
    cases h with
    | frz h _ r => cases e; exact ⟨_, _, rfl, .inl h, r⟩
    | frzK h r => cases e; exact ⟨_, _, rfl, .inr h, r⟩
    | _ => cases e
  · cases e
theorem Rt.tup_inv {ds : List D} (h : Rt A K H v (.tuple ds)) : Rp A K H v (.tuple ds) ∧ ∃ a xs, v = .ref a ∧ SqT K H a xs ∧ RpAll A K H xs ds := by
  rcases h with h | ⟨a, rfl, ds, xs, e, h, r⟩
  · exact ⟨h, h.tup_inv⟩
  · cases e
theorem Rt.dp {d : D} (h : Rt A K H v d) (e : noF d = true) : Dp K H v d := by
  rcases h with h | ⟨a, rfl, ds, xs, rfl, h, r⟩
  · exact h.dp e
  · exact .lst (.inl (.inl h)) (r.dp (by simpa [noF] using e))
end

/-! ### states -/
/-- the addresses of the slots' own lists -/
def exc (s : Sl) (σ : L2.St) (a : Addr) : Prop := ∃ (i : Nat) (p : Bool) (d : D), s[i]? = some (Slot.own p d) ∧ σ[i]? = some (some (V.ref a))
def Zs (A : Addr → Prop) (s : Sl) (σ : L2.St) : Addr → Prop := fun a => A a ∨ exc s σ a
/-- what is known of an exception: c its class's number, args its fields -/
abbrev XnT := Nat → List D → V → Hp → Prop
structure Rel (K : PySem.W.Frag) (Xn : XnT) (A : Addr → Prop) (H0 : Hp) (s : Sl) (σ : L2.St) (H : Hp) : Prop where
  len : s.length = σ.length
  dom : ∀ a, A a → H a ≠ none
  dom0 : ∀ a, H0 a ≠ none → H a ≠ none
  val : ∀ (i : Nat) (d : D), s[i]? = some (Slot.val d) → ∃ v, σ[i]? = some (some v) ∧ Rp (Zs A s σ) K H v d
  own : ∀ (i : Nat) (p : Bool) (d : D), s[i]? = some (Slot.own p d) → ∃ a, σ[i]? = some (some (V.ref a)) ∧ OwnOk (Zs A s σ) K H a d ∧ (p = true → A a) ∧ (p = false → ¬ A a ∧ H0 a = none)
  inj : ∀ (i j : Nat) (p q : Bool) (d e : D) (a : Addr), s[i]? = some (Slot.own p d) → s[j]? = some (Slot.own q e) → σ[i]? = some (some (V.ref a)) → σ[j]? = some (some (V.ref a)) → i = j
  exn : ∀ (i c : Nat) (args : List D), s[i]? = some (Slot.exn c args) → ∃ v, σ[i]? = some (some v) ∧ Xn c args v H
structure Go (K : PySem.W.Frag) (Xn : XnT) (A : Addr → Prop) (H0 : Hp) (s : Sl) (σ : L2.St) (H : Hp) (s' : Sl) (σ' : L2.St) (H' : Hp) : Prop where
  rel : Rel K Xn A H0 s' σ' H'
  fr : ∀ b o, H b = some o → ¬ exc s σ b → H' b = some o
  ex : ∀ a, exc s' σ' a → exc s σ a ∨ H a = none
  dom : ∀ a, H a ≠ none → H' a ≠ none
  pin : ∀ (i : Nat) (d : D), s'[i]? = some (Slot.own true d) → σ'[i]? = σ[i]? ∧ ∃ d0 : D, s[i]? = some (Slot.own true d0)
/-- what an exception's facts lean on stays -/
def XnOk (Xn : XnT) : Prop := ∀ c args v H H', Xn c args v H → (∀ b o, H b = some o → (∀ xs, o ≠ .lst xs) → H' b = some o) → Xn c args v H'
section
variable {K : PySem.W.Frag} {Xn : XnT} {A : Addr → Prop} {H0 : Hp} {s s' s1 s2 : Sl} {σ σ' σ1 σ2 : L2.St} {H H' H1 H2 : Hp} {v : V} {d : D}
theorem Rel.exc_lst (R : Rel K Xn A H0 s σ H) {a : Addr} (h : exc s σ a) : ∃ xs, H a = some (.lst xs) := by
  obtain ⟨i, p, d, e1, e2⟩ := h
  obtain ⟨a', e3, ⟨ds, xs, _, h, _⟩, _⟩ := R.own i p d e1
  rw [e2] at e3
  cases e3
  exact ⟨xs, h⟩
theorem Go.refl (R : Rel K Xn A H0 s σ H) : Go K Xn A H0 s σ H s σ H := ⟨R, fun _ _ e _ => e, fun _ h => .inl h, fun _ h => h, fun i d h => ⟨rfl, d, h⟩⟩
theorem Go.trans (g : Go K Xn A H0 s σ H s1 σ1 H1) (h : Go K Xn A H0 s1 σ1 H1 s2 σ2 H2) : Go K Xn A H0 s σ H s2 σ2 H2 := by
  refine ⟨h.rel, fun b o e n => h.fr b o (g.fr b o e n) fun q => ?_, fun a q => ?_, fun a q => h.dom a (g.dom a q), fun i d q => ?_⟩
  · rcases g.ex b q with z | z
    · exact n z
    · rw [e] at z; cases z
  · rcases h.ex a q with z | z
    · exact g.ex a z
    · refine .inr ?_
      cases e : H a with
      | none => rfl
      | some o => exact absurd z (g.dom a (by rw [e]; simp))
  · obtain ⟨e1, d0, q1⟩ := h.pin i d q
    obtain ⟨e2, d1, q2⟩ := g.pin i d0 q1
    exact ⟨e1.trans e2, d1, q2⟩
theorem Go.zs (g : Go K Xn A H0 s σ H s' σ' H') : ∀ b, Zs A s' σ' b → Zs A s σ b ∨ H b = none := fun b q => by
  rcases q with q | q
  · exact .inl (.inl q)
  · rcases g.ex b q with z | z
    · exact .inl (.inr z)
    · exact .inr z
theorem Go.frz (g : Go K Xn A H0 s σ H s' σ' H') : ∀ b o, H b = some o → ¬ Zs A s σ b → H' b = some o := fun b o e n => g.fr b o e fun q => n (.inr q)
theorem Go.rp (g : Go K Xn A H0 s σ H s' σ' H') (h : Rp (Zs A s σ) K H v d) : Rp (Zs A s' σ') K H' v d := h.mono g.frz g.zs
theorem Go.rpAll (g : Go K Xn A H0 s σ H s' σ' H') {vs : List V} {ds : List D} (h : RpAll (Zs A s σ) K H vs ds) : RpAll (Zs A s' σ') K H' vs ds := h.mono g.frz g.zs

/-- only new things -/
theorem Rel.ext (hx : XnOk Xn) (R : Rel K Xn A H0 s σ H) (e : ∀ b o, H b = some o → H' b = some o) : Rel K Xn A H0 s σ H' := by
  have dm : ∀ a, H a ≠ none → H' a ≠ none := fun a h => by
    cases q : H a with
    | none => exact absurd q h
    | some o => rw [e a o q]; simp
  refine ⟨R.len, fun a h => dm a (R.dom a h), fun a h => dm a (R.dom0 a h), fun i d h => ?_, fun i p d h => ?_, R.inj, fun i c args h => ?_⟩
  · obtain ⟨v, h1, h2⟩ := R.val i d h
    exact ⟨v, h1, h2.mono (fun b o q _ => e b o q) fun b q => .inl q⟩
  · obtain ⟨a, h1, h2, h3⟩ := R.own i p d h
    refine ⟨a, h1, ?_, h3⟩
    obtain ⟨ds, xs, r1, r2, r3⟩ := h2
    exact ⟨ds, xs, r1, e _ _ r2, r3.mono (fun b o q _ => e b o q) fun b q => .inl q⟩
  · obtain ⟨v, h1, h2⟩ := R.exn i c args h
    exact ⟨v, h1, hx _ _ _ _ _ h2 fun b o q _ => e b o q⟩
theorem Rel.goExt (hx : XnOk Xn) (R : Rel K Xn A H0 s σ H) (e : ∀ b o, H b = some o → H' b = some o) : Go K Xn A H0 s σ H s σ H' :=
  ⟨R.ext hx e, fun b o q _ => e b o q, fun _ q => .inl q, fun a h => by
    cases q : H a with
    | none => exact absurd q h
    | some o => rw [e a o q]; simp, fun i d h => ⟨rfl, d, h⟩⟩
/-- p is held apart too -/
def Apt (A : Addr → Prop) (p : Addr) : Addr → Prop := fun a => A a ∨ a = p
theorem Rel.apart (R : Rel K Xn A H0 s σ H) (hx : XnOk Xn) {p : Addr} {o : HO} (hp : H p = none) : Rel K Xn (Apt A p) H0 s σ (upd H p o) := by
  have e : ∀ b u, H b = some u → (upd H p o) b = some u := fun b u q => by rw [upd_ne (ne_of_none q hp)]; exact q
  have R1 := R.ext hx e
  have zz : ∀ b, Zs (Apt A p) s σ b → Zs A s σ b ∨ H b = none := fun b q => by
    rcases q with (q | q) | q
    · exact .inl (.inl q)
    · exact .inr (by rw [q]; exact hp)
    · exact .inl (.inr q)
  refine ⟨R.len, fun a h => ?_, R1.dom0, fun i d h => ?_, fun i q d h => ?_, R.inj, R1.exn⟩
  · rcases h with h | h
    · exact R1.dom a h
    · rw [h, upd_same]; simp
  · obtain ⟨v, h1, h2⟩ := R.val i d h
    exact ⟨v, h1, h2.mono (fun b u q _ => e b u q) zz⟩
  · obtain ⟨a, h1, ⟨ds, xs, r1, r2, r3⟩, h3, h4⟩ := R.own i q d h
    refine ⟨a, h1, ⟨ds, xs, r1, e _ _ r2, r3.mono (fun b u q _ => e b u q) zz⟩, fun z => .inl (h3 z), fun z => ⟨?_, (h4 z).2⟩⟩
    rintro (y | y)
    · exact (h4 z).1 y
    · rw [y, hp] at r2; cases r2
/-- no more held apart -/
theorem Rel.unapart {p : Addr} (R : Rel K Xn (Apt A p) H0 s σ H) (h : ∀ (i : Nat) (d : D), s[i]? = some (Slot.own true d) → σ[i]? ≠ some (some (V.ref p))) : Rel K Xn A H0 s σ H := by
  have zz : ∀ b, Zs A s σ b → Zs (Apt A p) s σ b := fun b q => by
    rcases q with q | q
    · exact .inl (.inl q)
    · exact .inr q
  refine ⟨R.len, fun a h => R.dom a (.inl h), R.dom0, fun i d h => ?_, fun i q d hi => ?_, R.inj, R.exn⟩
  · obtain ⟨v, h1, h2⟩ := R.val i d h
    exact ⟨v, h1, h2.weak zz⟩
  · obtain ⟨a, h1, ⟨ds, xs, r1, r2, r3⟩, h3, h4⟩ := R.own i q d hi
    refine ⟨a, h1, ⟨ds, xs, r1, r2, r3.weak zz⟩, fun z => ?_, fun z => ⟨fun y => (h4 z).1 (.inl y), (h4 z).2⟩⟩
    rcases h3 z with y | y
    · exact y
    · subst y
      subst z
      exact absurd h1 (h i d hi)

/-! ### a slot is set -/
theorem get_set_ne {α : Type} {l : List α} {i j : Nat} {x : α} (h : j ≠ i) : (l.set i x)[j]? = l[j]? := List.getElem?_set_ne (Ne.symm h)
theorem get_set_eq {α : Type} {l : List α} {i : Nat} {x y : α} (h : (l.set i x)[i]? = some y) : x = y ∧ i < l.length := by
  by_cases hi : i < l.length
  · rw [List.getElem?_set_self hi] at h
    exact ⟨Option.some.inj h, hi⟩
  · rw [List.getElem?_eq_none (by simpa using hi)] at h
    cases h
theorem pin_set {s : Sl} {σ : L2.St} {i : Nat} {x : Slot} {w : Option V} (hx : ∀ d, x ≠ Slot.own true d) : ∀ (j : Nat) (e : D), (s.set i x)[j]? = some (Slot.own true e) → (σ.set i w)[j]? = σ[j]? ∧ ∃ d0 : D, s[j]? = some (Slot.own true d0) := fun j e h => by
  by_cases hj : j = i
  · subst hj
    obtain ⟨z, _⟩ := get_set_eq h
    exact absurd z (hx e)
  · rw [get_set_ne hj] at h
    exact ⟨get_set_ne hj, e, h⟩
theorem pin_set' {s : Sl} {σ : L2.St} {i : Nat} {x : Slot} (hx : ∀ d, x ≠ Slot.own true d) : ∀ (j : Nat) (e : D), (s.set i x)[j]? = some (Slot.own true e) → σ[j]? = σ[j]? ∧ ∃ d0 : D, s[j]? = some (Slot.own true d0) := fun j e h => ⟨rfl, (pin_set (w := none) hx (σ := σ) j e h).2⟩
theorem canSet_lt (h : canSet s i = true) : i < s.length := by
  unfold canSet at h
  cases e : s[i]? with
  | none => rw [e] at h; cases h
  | some x => exact (List.getElem?_eq_some_iff.mp e).1
/-- own slots but the one that is set -/
theorem exc_set {i : Nat} {x : Slot} {w : Option V} {a : Addr} (hx : ∀ p d, x ≠ .own p d) (h : exc (s.set i x) (σ.set i w) a) : exc s σ a := by
  obtain ⟨j, p, d, e1, e2⟩ := h
  by_cases hj : j = i
  · subst hj
    exact absurd (get_set_eq e1).1 (hx p d)
  · rw [get_set_ne hj] at e1 e2
    exact ⟨j, p, d, e1, e2⟩
theorem exc_set' {i : Nat} {x : Slot} {a : Addr} (hx : ∀ p d, x ≠ .own p d) (h : exc (s.set i x) σ a) : exc s σ a := by
  obtain ⟨j, p, d, e1, e2⟩ := h
  by_cases hj : j = i
  · subst hj
    exact absurd (get_set_eq e1).1 (hx p d)
  · rw [get_set_ne hj] at e1
    exact ⟨j, p, d, e1, e2⟩
theorem Rel.setVal (R : Rel K Xn A H0 s σ H) {i : Nat} (h : Rp (Zs A s σ) K H v d) : Rel K Xn A H0 (s.set i (.val d)) (σ.set i (some v)) H := by
  have zz : ∀ b, Zs A (s.set i (.val d)) (σ.set i (some v)) b → Zs A s σ b := fun b q => by
    rcases q with q | q
    · exact .inl q
    · exact .inr (exc_set (fun p d => by intro z; cases z) q)
  refine ⟨by simpa using R.len, R.dom, R.dom0, fun j e h1 => ?_, fun j p e h1 => ?_, fun j k p q e f a h1 h2 h3 h4 => ?_, fun j c args h1 => ?_⟩
  · by_cases hj : j = i
    · subst hj
      obtain ⟨z, hlt⟩ := get_set_eq h1
      cases z
      exact ⟨v, List.getElem?_set_self (by rw [← R.len]; exact hlt), h.weak zz⟩
    · rw [get_set_ne hj] at h1
      obtain ⟨w, e1, e2⟩ := R.val j e h1
      exact ⟨w, by rw [get_set_ne hj]; exact e1, e2.weak zz⟩
  · by_cases hj : j = i
    · subst hj
      obtain ⟨z, _⟩ := get_set_eq h1
      cases z
    · rw [get_set_ne hj] at h1
      obtain ⟨a, e1, ⟨ds, xs, r1, r2, r3⟩, e3⟩ := R.own j p e h1
      exact ⟨a, by rw [get_set_ne hj]; exact e1, ⟨ds, xs, r1, r2, r3.weak zz⟩, e3⟩
  · by_cases hj : j = i
    · subst hj
      obtain ⟨z, _⟩ := get_set_eq h1
      cases z
    · by_cases hk : k = i
      · subst hk
        obtain ⟨z, _⟩ := get_set_eq h2
        cases z
      · rw [get_set_ne hj] at h1 h3
        rw [get_set_ne hk] at h2 h4
        exact R.inj j k p q e f a h1 h2 h3 h4
  · by_cases hj : j = i
    · subst hj
      obtain ⟨z, _⟩ := get_set_eq h1
      cases z
    · rw [get_set_ne hj] at h1
      obtain ⟨w, e1, e2⟩ := R.exn j c args h1
      exact ⟨w, by rw [get_set_ne hj]; exact e1, e2⟩
theorem Rel.goVal (R : Rel K Xn A H0 s σ H) {i : Nat} (h : Rp (Zs A s σ) K H v d) : Go K Xn A H0 s σ H (s.set i (.val d)) (σ.set i (some v)) H :=
  ⟨R.setVal h, fun _ _ e _ => e, fun _ q => .inl (exc_set (fun p d => by intro z; cases z) q), fun _ h => h, pin_set fun d => by intro z; cases z⟩
/-- a slot is forgotten; w: whatever the machine holds there -/
theorem Rel.setNo (R : Rel K Xn A H0 s σ H) {i : Nat} {w : Option V} : Rel K Xn A H0 (s.set i .no) (σ.set i w) H := by
  have zz : ∀ b, Zs A (s.set i .no) (σ.set i w) b → Zs A s σ b := fun b q => by
    rcases q with q | q
    · exact .inl q
    · exact .inr (exc_set (fun p d => by intro z; cases z) q)
  refine ⟨by simpa using R.len, R.dom, R.dom0, fun j e h1 => ?_, fun j p e h1 => ?_, fun j k p q e f a h1 h2 h3 h4 => ?_, fun j c args h1 => ?_⟩
  · by_cases hj : j = i
    · subst hj
      obtain ⟨z, hlt⟩ := get_set_eq h1
      cases z
    · rw [get_set_ne hj] at h1
      obtain ⟨w, e1, e2⟩ := R.val j e h1
      exact ⟨w, by rw [get_set_ne hj]; exact e1, e2.weak zz⟩
  · by_cases hj : j = i
    · subst hj
      obtain ⟨z, _⟩ := get_set_eq h1
      cases z
    · rw [get_set_ne hj] at h1
      obtain ⟨a, e1, ⟨ds, xs, r1, r2, r3⟩, e3⟩ := R.own j p e h1
      exact ⟨a, by rw [get_set_ne hj]; exact e1, ⟨ds, xs, r1, r2, r3.weak zz⟩, e3⟩
  · by_cases hj : j = i
    · subst hj
      obtain ⟨z, _⟩ := get_set_eq h1
      cases z
    · by_cases hk : k = i
      · subst hk
        obtain ⟨z, _⟩ := get_set_eq h2
        cases z
      · rw [get_set_ne hj] at h1 h3
        rw [get_set_ne hk] at h2 h4
        exact R.inj j k p q e f a h1 h2 h3 h4
  · by_cases hj : j = i
    · subst hj
      obtain ⟨z, _⟩ := get_set_eq h1
      cases z
    · rw [get_set_ne hj] at h1
      obtain ⟨w, e1, e2⟩ := R.exn j c args h1
      exact ⟨w, by rw [get_set_ne hj]; exact e1, e2⟩
theorem Rel.goNo (R : Rel K Xn A H0 s σ H) {i : Nat} {w : Option V} : Go K Xn A H0 s σ H (s.set i .no) (σ.set i w) H :=
  ⟨R.setNo, fun _ _ e _ => e, fun _ q => .inl (exc_set (fun p d => by intro z; cases z) q), fun _ h => h, pin_set fun d => by intro z; cases z⟩
/-- a new list becomes a slot's own -/
theorem Rel.setOwn {p : Addr} (R : Rel K Xn (Apt A p) H0 s σ H) {i : Nat} (hi : ∀ d, s[i]? ≠ some (Slot.own true d)) (hA : ¬ A p) (h0 : H0 p = none) (ho : OwnOk (Zs (Apt A p) s σ) K H p d) (hn : ¬ exc s σ p) :
    Rel K Xn A H0 (s.set i (.own false d)) (σ.set i (some (.ref p))) H := by
  have zz : ∀ b, Zs A (s.set i (.own false d)) (σ.set i (some (.ref p))) b → Zs (Apt A p) s σ b := fun b q => by
    rcases q with q | ⟨j, q, e, e1, e2⟩
    · exact .inl (.inl q)
    · by_cases hj : j = i
      · subst hj
        obtain ⟨z, _⟩ := get_set_eq e2
        cases z
        exact .inl (.inr rfl)
      · rw [get_set_ne hj] at e1 e2
        exact .inr ⟨j, q, e, e1, e2⟩
  have ne : ∀ (j : Nat) (q : Bool) (e : D) (a : Addr), s[j]? = some (Slot.own q e) → σ[j]? = some (some (V.ref a)) → a ≠ p := fun j q e a h1 h2 z => hn (z ▸ ⟨j, q, e, h1, h2⟩)
  refine ⟨by simpa using R.len, fun a h => R.dom a (.inl h), R.dom0, fun j e h1 => ?_, fun j q e h1 => ?_, fun j k q r e f a h1 h2 h3 h4 => ?_, fun j c args h1 => ?_⟩
  · by_cases hj : j = i
    · subst hj
      obtain ⟨z, hlt⟩ := get_set_eq h1
      cases z
    · rw [get_set_ne hj] at h1
      obtain ⟨w, e1, e2⟩ := R.val j e h1
      exact ⟨w, by rw [get_set_ne hj]; exact e1, e2.weak zz⟩
  · by_cases hj : j = i
    · subst hj
      obtain ⟨z, hlt⟩ := get_set_eq h1
      cases z
      obtain ⟨ds, xs, r1, r2, r3⟩ := ho
      exact ⟨p, List.getElem?_set_self (by rw [← R.len]; exact hlt), ⟨ds, xs, r1, r2, r3.weak zz⟩, (fun z => by cases z), fun _ => ⟨hA, h0⟩⟩
    · rw [get_set_ne hj] at h1
      obtain ⟨a, e1, ⟨ds, xs, r1, r2, r3⟩, e3, e4⟩ := R.own j q e h1
      refine ⟨a, by rw [get_set_ne hj]; exact e1, ⟨ds, xs, r1, r2, r3.weak zz⟩, fun z => ?_, fun z => ⟨fun y => (e4 z).1 (.inl y), (e4 z).2⟩⟩
      rcases e3 z with y | y
      · exact y
      · exact absurd y (ne j q e a h1 e1)
  · by_cases hj : j = i
    · by_cases hk : k = i
      · rw [hj, hk]
      · subst hj
        obtain ⟨z, _⟩ := get_set_eq h3
        cases z
        rw [get_set_ne hk] at h2 h4
        exact absurd rfl (ne k r f _ h2 h4)
    · by_cases hk : k = i
      · subst hk
        obtain ⟨z, _⟩ := get_set_eq h4
        cases z
        rw [get_set_ne hj] at h1 h3
        exact absurd rfl (ne j q e _ h1 h3)
      · rw [get_set_ne hj] at h1 h3
        rw [get_set_ne hk] at h2 h4
        exact R.inj j k q r e f a h1 h2 h3 h4
  · by_cases hj : j = i
    · subst hj
      obtain ⟨z, _⟩ := get_set_eq h1
      cases z
    · rw [get_set_ne hj] at h1
      obtain ⟨w, e1, e2⟩ := R.exn j c args h1
      exact ⟨w, by rw [get_set_ne hj]; exact e1, e2⟩
/-- an own list is let be seen -/
theorem Rel.let (R : Rel K Xn A H0 s σ H) {i : Nat} (h : s[i]? = some (Slot.own false d)) : Rel K Xn A H0 (s.set i (.val d)) σ H ∧ ∃ a, σ[i]? = some (some (V.ref a)) ∧ Rp (Zs A (s.set i (.val d)) σ) K H (.ref a) d := by
  obtain ⟨a, e1, ⟨ds, xs, rfl, r2, r3⟩, _, e4⟩ := R.own i false d h
  have hlt : i < s.length := (List.getElem?_eq_some_iff.mp h).1
  have zz : ∀ b, Zs A (s.set i (.val (.list ds))) σ b → Zs A s σ b := fun b q => by
    rcases q with q | q
    · exact .inl q
    · exact .inr (exc_set' (fun p d => by intro z; cases z) q)
  have na : ¬ Zs A (s.set i (.val (.list ds))) σ a := by
    rintro (q | ⟨j, q, e, h1, h2⟩)
    · exact (e4 rfl).1 q
    · by_cases hj : j = i
      · subst hj
        obtain ⟨z, _⟩ := get_set_eq h1
        cases z
      · rw [get_set_ne hj] at h1
        exact hj (R.inj j i q false e _ a h1 h h2 e1)
  have rp : Rp (Zs A (s.set i (.val (.list ds))) σ) K H (.ref a) (.list ds) := .lst r2 na (r3.weak zz)
  refine ⟨⟨by simpa using R.len, R.dom, R.dom0, fun j e h1 => ?_, fun j p e h1 => ?_, fun j k p q e f b h1 h2 h3 h4 => ?_, fun j c args h1 => ?_⟩, a, e1, rp⟩
  · by_cases hj : j = i
    · subst hj
      obtain ⟨z, _⟩ := get_set_eq h1
      cases z
      exact ⟨_, e1, rp⟩
    · rw [get_set_ne hj] at h1
      obtain ⟨w, e1, e2⟩ := R.val j e h1
      exact ⟨w, e1, e2.weak zz⟩
  · by_cases hj : j = i
    · subst hj
      obtain ⟨z, _⟩ := get_set_eq h1
      cases z
    · rw [get_set_ne hj] at h1
      obtain ⟨b, f1, ⟨ds', xs', r1', r2', r3'⟩, f3⟩ := R.own j p e h1
      exact ⟨b, f1, ⟨ds', xs', r1', r2', r3'.weak zz⟩, f3⟩
  · by_cases hj : j = i
    · subst hj
      obtain ⟨z, _⟩ := get_set_eq h1
      cases z
    · by_cases hk : k = i
      · subst hk
        obtain ⟨z, _⟩ := get_set_eq h2
        cases z
      · rw [get_set_ne hj] at h1
        rw [get_set_ne hk] at h2
        exact R.inj j k p q e f b h1 h2 h3 h4
  · by_cases hj : j = i
    · subst hj
      obtain ⟨z, _⟩ := get_set_eq h1
      cases z
    · rw [get_set_ne hj] at h1
      exact R.exn j c args h1
/-- an own list is changed -/
theorem Rel.write (hx : XnOk Xn) (R : Rel K Xn A H0 s σ H) {i : Nat} {p : Bool} {a : Addr} {ys : List V} {es : List D} (h : s[i]? = some (Slot.own p d)) (ha : σ[i]? = some (some (V.ref a))) (r : RpAll (Zs A s σ) K H ys es) :
    Go K Xn A H0 s σ H (s.set i (.own p (.list es))) σ (upd H a (.lst ys)) := by
  have hlt : i < s.length := (List.getElem?_eq_some_iff.mp h).1
  have hea : exc s σ a := ⟨i, p, d, h, ha⟩
  obtain ⟨xs, hxs⟩ := R.exc_lst hea
  have eq : ∀ b, exc (s.set i (.own p (.list es))) σ b ↔ exc s σ b := fun b => by
    constructor
    · rintro ⟨j, q, e, h1, h2⟩
      by_cases hj : j = i
      · subst hj
        exact ⟨j, p, d, h, h2⟩
      · rw [get_set_ne hj] at h1
        exact ⟨j, q, e, h1, h2⟩
    · rintro ⟨j, q, e, h1, h2⟩
      by_cases hj : j = i
      · subst hj
        exact ⟨j, p, _, List.getElem?_set_self hlt, h2⟩
      · exact ⟨j, q, e, by rw [get_set_ne hj]; exact h1, h2⟩
  have zz : ∀ b, Zs A (s.set i (.own p (.list es))) σ b → Zs A s σ b := fun b q => by
    rcases q with q | q
    · exact .inl q
    · exact .inr ((eq b).mp q)
  have ff : ∀ b o, H b = some o → ¬ Zs A s σ b → (upd H a (.lst ys)) b = some o := fun b o e n => by
    rw [upd_ne (fun z => n (.inr (by rw [z]; exact hea)))]
    exact e
  have dm : ∀ b, H b ≠ none → (upd H a (.lst ys)) b ≠ none := fun b e => by
    by_cases hb : b = a
    · rw [hb, upd_same]; simp
    · rw [upd_ne hb]; exact e
  have own' : ∀ j q e, (s.set i (.own p (.list es)))[j]? = some (Slot.own q e) → (j = i ∧ q = p ∧ e = .list es) ∨ (j ≠ i ∧ s[j]? = some (Slot.own q e)) := fun j q e h1 => by
    by_cases hj : j = i
    · subst hj
      obtain ⟨z, _⟩ := get_set_eq h1
      cases z
      exact .inl ⟨rfl, rfl, rfl⟩
    · rw [get_set_ne hj] at h1
      exact .inr ⟨hj, h1⟩
  refine ⟨⟨by simpa using R.len, fun b e => dm b (R.dom b e), fun b e => dm b (R.dom0 b e), fun j e h1 => ?_, fun j q e h1 => ?_, fun j k q q' e f b h1 h2 h3 h4 => ?_, fun j c args h1 => ?_⟩, fun b o e n => ?_, fun b q => .inl ((eq b).mp q), dm, fun j e h1 => ⟨rfl, by
    rcases own' j true e h1 with ⟨rfl, rfl, _⟩ | ⟨_, h1⟩
    · exact ⟨d, h⟩
    · exact ⟨e, h1⟩⟩⟩
  · by_cases hj : j = i
    · subst hj
      obtain ⟨z, _⟩ := get_set_eq h1
      cases z
    · rw [get_set_ne hj] at h1
      obtain ⟨w, e1, e2⟩ := R.val j e h1
      exact ⟨w, e1, e2.mono ff fun b q => .inl (zz b q)⟩
  · rcases own' j q e h1 with ⟨rfl, rfl, rfl⟩ | ⟨hj, h1⟩
    · obtain ⟨a', f1, _, f3⟩ := R.own j q d h
      rw [ha] at f1
      cases f1
      exact ⟨a, ha, ⟨es, ys, rfl, upd_same, r.mono ff fun b q => .inl (zz b q)⟩, f3⟩
    · obtain ⟨b, f1, ⟨ds', xs', r1', r2', r3'⟩, f3⟩ := R.own j q e h1
      have hb : b ≠ a := fun z => hj (R.inj j i q p e d a h1 h (z ▸ f1) ha)
      exact ⟨b, f1, ⟨ds', xs', r1', by rw [upd_ne hb]; exact r2', r3'.mono ff fun b q => .inl (zz b q)⟩, f3⟩
  · have g : ∀ j q e, (s.set i (.own p (.list es)))[j]? = some (Slot.own q e) → ∃ q e, s[j]? = some (Slot.own q e) := fun j q e hh => by
      rcases own' j q e hh with ⟨rfl, _, _⟩ | ⟨_, hh⟩
      · exact ⟨p, d, h⟩
      · exact ⟨q, e, hh⟩
    obtain ⟨_, _, g1⟩ := g j q e h1
    obtain ⟨_, _, g2⟩ := g k q' f h2
    exact R.inj j k _ _ _ _ b g1 g2 h3 h4
  · by_cases hj : j = i
    · subst hj
      obtain ⟨z, _⟩ := get_set_eq h1
      cases z
    · rw [get_set_ne hj] at h1
      obtain ⟨w, e1, e2⟩ := R.exn j c args h1
      refine ⟨w, e1, hx _ _ _ _ _ e2 fun b o e no => ?_⟩
      have hb : b ≠ a := fun z => by
        rw [z, hxs] at e
        cases e
        exact no xs rfl
      rw [upd_ne hb]
      exact e
  · rw [upd_ne (fun z => n (by rw [z]; exact hea))]
    exact e
end
end Mi

/-! Mi2: values against the machine's, what an expression of the machine does (by its own run), operators. -/
namespace Mi
open PySem PySem.Spec PyProof.Rows L2

/-- what of an exception's object is known where it leaves: its class, its own dict, the heap behind it -/
abbrev XrT := (Addr → Prop) → Nat → List D → Value → Option Addr → Hp → Prop
section
variable (K : PySem.W.Frag) (Xn : XnT) (A : Addr → Prop) (H0 : Hp) (s : Sl) (σ : L2.St)
/-- a value where it has just come (Hs: the heap ahead of it) -/
def VR (Hs H : Hp) (v : Vl) (x : V) : Prop := match v with
  | .dt d => Rp (Zs A s σ) K H x d
  | .nw d => ∃ p, x = .ref p ∧ Hs p = none ∧ Rel K Xn (Apt A p) H0 s σ H ∧ OwnOk (Zs (Apt A p) s σ) K H p d ∧ ¬ exc s σ p ∧ ¬ A p
  | .br i => σ[i]? = some (some x)
/-- .. later -/
def VL (H : Hp) (v : Vl) (x : V) : Prop := match v with
  | .dt d => Rp (Zs A s σ) K H x d
  | .nw d => Rp (Zs A s σ) K H x d
  | .br i => σ[i]? = some (some x)
inductive VLs (H : Hp) : List Vl → List V → Prop
  | nil : VLs H [] []
  | cons {v : Vl} {x : V} {vs : List Vl} {xs : List V} : VL K A s σ H v x → VLs H vs xs → VLs H (v :: vs) (x :: xs)
end
section
variable {K : PySem.W.Frag} {Xn : XnT} {A : Addr → Prop} {H0 : Hp} {s s' s1 s2 : Sl} {σ σ' σ1 σ2 : L2.St} {H H' H1 H2 Hs : Hp} {v : Vl} {x : V} {d : D}
theorem zs_apt {p : Addr} : ∀ b, Zs A s σ b → Zs (Apt A p) s σ b := fun b q => by
  rcases q with q | q
  · exact .inl (.inl q)
  · exact .inr q
theorem VR.late (h : VR K Xn A H0 s σ Hs H v x) : VL K A s σ H v x := by
  cases v with
  | dt d => exact h
  | br i => exact h
  | nw d =>
    obtain ⟨p, rfl, _, _, ⟨ds, xs, rfl, r2, r3⟩, n1, n2⟩ := h
    refine .lst r2 ?_ (r3.weak zs_apt)
    rintro (q | q)
    · exact n2 q
    · exact n1 q
theorem VL.go (h : VL K A s σ H v x) (g : Go K Xn A H0 s σ H s' σ H') : VL K A s' σ H' v x := by
  cases v with
  | dt d => exact g.rp h
  | nw d => exact g.rp h
  | br i => exact h
theorem VLs.go {vs : List Vl} {xs : List V} (h : VLs K A s σ H vs xs) (g : Go K Xn A H0 s σ H s' σ H') : VLs K A s' σ H' vs xs := by
  induction h with
  | nil => exact .nil
  | cons h _ ih => exact .cons (h.go g) ih
theorem get_ok (R : Rel K Xn A H0 s σ H) (h : VL K A s σ H v x) (e : v.get s = some d) : Rt (Zs A s σ) K H x d := by
  cases v with
  | dt d' => cases e; exact .inl h
  | nw d' => cases e; exact .inl h
  | br i =>
    have h : σ[i]? = some (some x) := h
    unfold Vl.get at e
    simp only at e
    split at e
    · rename_i d' hs
      cases e
      obtain ⟨w, e1, e2⟩ := R.val i _ hs
      rw [h] at e1
      cases e1
      exact .inl e2
    · rename_i p d' hs
      cases e
      obtain ⟨a, e1, e2, _⟩ := R.own i p _ hs
      rw [h] at e1
      cases e1
      exact .inr ⟨a, rfl, e2⟩
    · cases e
theorem esc_ok (R : Rel K Xn A H0 s σ H) (h : VL K A s σ H v x) (e : esc s v = some (d, s')) : Go K Xn A H0 s σ H s' σ H ∧ Rp (Zs A s' σ) K H x d := by
  cases v with
  | dt d' => cases e; exact ⟨Go.refl R, h⟩
  | nw d' => cases e; exact ⟨Go.refl R, h⟩
  | br i =>
    have h : σ[i]? = some (some x) := h
    unfold esc at e
    simp only at e
    split at e
    · rename_i d' hs
      cases e
      obtain ⟨w, e1, e2⟩ := R.val i _ hs
      rw [h] at e1
      cases e1
      exact ⟨Go.refl R, e2⟩
    · rename_i d' hs
      cases e
      obtain ⟨R1, a, e1, e2⟩ := R.let hs
      rw [h] at e1
      cases e1
      exact ⟨⟨R1, fun _ _ e _ => e, fun _ q => .inl (exc_set' (fun p d => by intro z; cases z) q), fun _ q => q, pin_set' fun d => by intro z; cases z⟩, e2⟩
    · cases e
theorem escs_ok : ∀ {vs : List Vl} {xs : List V} {ds : List D} {s s' : Sl}, Rel K Xn A H0 s σ H → VLs K A s σ H vs xs → escs s vs = some (ds, s') → Go K Xn A H0 s σ H s' σ H ∧ RpAll (Zs A s' σ) K H xs ds
  | [], _, _, _, _, R, .nil, e => by cases e; exact ⟨Go.refl R, .nil⟩
  | v :: vs, x :: xs, ds, s, s', R, .cons h hs, e => by
    unfold escs at e
    split at e
    · rename_i d s1 e1
      obtain ⟨g1, r1⟩ := esc_ok R h e1
      split at e
      · rename_i ds' s2 e2
        cases e
        obtain ⟨g2, r2⟩ := escs_ok g1.rel (hs.go g1) e2
        exact ⟨g1.trans g2, .cons (g2.rp r1) r2⟩
      · cases e
    · cases e
theorem gets_ok : ∀ {vs : List Vl} {xs : List V} {ds : List D}, Rel K Xn A H0 s σ H → VLs K A s σ H vs xs → gets s vs = some ds → ∃ rs : List V, rs = xs ∧ Paired (Rt (Zs A s σ) K H) xs ds
  | [], _, _, R, .nil, e => by
    unfold gets at e
    cases e
    exact ⟨_, rfl, .nil⟩
  | v :: vs, x :: xs, ds, R, .cons h hs, e => by
    unfold gets at e
    split at e
    · rename_i d e1
      split at e
      · rename_i ds' e2
        cases e
        obtain ⟨_, _, r⟩ := gets_ok R hs e2
        exact ⟨_, rfl, .cons (get_ok R h e1) r⟩
      · cases e
    · cases e
/-- a new tuple -/
theorem new_tup (hx : XnOk Xn) (R : Rel K Xn A H0 s σ H) {xs : List V} {ds : List D} {p : Addr} (hp : H p = none) (r : RpAll (Zs A s σ) K H xs ds) :
    Go K Xn A H0 s σ H s σ (upd H p (.tup xs)) ∧ Rp (Zs A s σ) K (upd H p (.tup xs)) (.ref p) (.tuple ds) := by
  have e : ∀ b u, H b = some u → (upd H p (.tup xs)) b = some u := fun b u q => by rw [upd_ne (ne_of_none q hp)]; exact q
  refine ⟨R.goExt hx e, .tup (.inl upd_same) ?_ (r.mono (fun b u q _ => e b u q) fun b q => .inl q)⟩
  rintro (q | q)
  · exact R.dom p q hp
  · obtain ⟨xs, q⟩ := R.exc_lst q
    rw [hp] at q; cases q
/-- a new list -/
theorem new_lst (hx : XnOk Xn) (R : Rel K Xn A H0 s σ H) {xs : List V} {ds : List D} {p : Addr} (hs : Hs p = none) (hp : H p = none) (r : RpAll (Zs A s σ) K H xs ds) :
    Go K Xn A H0 s σ H s σ (upd H p (.lst xs)) ∧ VR K Xn A H0 s σ Hs (upd H p (.lst xs)) (.nw (.list ds)) (.ref p) := by
  have e : ∀ b u, H b = some u → (upd H p (.lst xs)) b = some u := fun b u q => by rw [upd_ne (ne_of_none q hp)]; exact q
  refine ⟨R.goExt hx e, p, rfl, hs, R.apart hx hp, ⟨ds, xs, rfl, upd_same, r.mono (fun b u q _ => e b u q) fun b q => ?_⟩, fun q => ?_, fun q => R.dom p q hp⟩
  · rcases q with (q | q) | q
    · exact .inl (.inl q)
    · exact .inr (by rw [q]; exact hp)
    · exact .inl (.inr q)
  · obtain ⟨xs, q⟩ := R.exc_lst q
    rw [hp] at q; cases q
theorem Go.none_of (g : Go K Xn A H0 s σ H s' σ' H') {p : Addr} (h : H' p = none) : H p = none := by
  cases q : H p with
  | none => rfl
  | some o => exact absurd h (g.dom p (by rw [q]; simp))
/-- a value seen from an earlier start -/
theorem VR.from (h : VR K Xn A H0 s σ Hs H v x) (e : ∀ p, Hs p = none → H1 p = none) : VR K Xn A H0 s σ H1 H v x := by
  cases v with
  | dt d => exact h
  | br i => exact h
  | nw d =>
    obtain ⟨p, h1, h2, h3⟩ := h
    exact ⟨p, h1, e p h2, h3⟩
end

/-! ### what the machine does, as readings -/
section
variable (X : Cx)
def wpE (e : Expr) : TE := fun σ H Q => ∀ (pins : List (Addr × Obj)) (s : Shared), Inv X pins σ H s → wpAny (model X.prog X.w) X.A (eval e X.env) (EP X pins σ Q) X.xe s
def wpT (e : Expr) : TT := fun σ H Q => ∀ (pins : List (Addr × Obj)) (s : Shared), Inv X pins σ H s → wpAny (model X.prog X.w) X.A (isTrue e X.env (eval e X.env)) (TP X pins σ Q) X.xe s
def wpA (es : List Expr) : TA := fun σ H Q => ∀ (pos : Pos) (pins : List (Addr × Obj)) (s : Shared), Inv X pins σ H s → wpAny (model X.prog X.w) X.A (spliced (backTo pos (starEach es X.env))) (AP X pins σ Q) X.xe s
def wpS (st : Stmt) : TS := fun D σ H => ∀ (pins : List (Addr × Obj)) (s : Shared), Inv X pins σ H s → wpAny (model X.prog X.w) X.A (exec st X.env) (SP X pins D) X.xe s
def wpSs (st : List Stmt) : TS := fun D σ H => ∀ (pins : List (Addr × Obj)) (s : Shared), Inv X pins σ H s → wpAny (model X.prog X.w) X.A (execs st X.env) (SP X pins D) X.xe s
def wpO (f : Value → Value → Sem Value) : R2 := fun x y H Q => ∀ (pins : List (Addr × Obj)) (s : Shared) (σ : L2.St) (v u : Value), Inv X pins σ H s → RelV x v → RelV y u → wpAny (model X.prog X.w) X.A (f v u) (EP X pins σ Q) X.xe s
def wpU (f : Value → Sem Value) : V → Hp → VK → Prop := fun x H Q => ∀ (pins : List (Addr × Obj)) (s : Shared) (σ : L2.St) (v : Value), Inv X pins σ H s → RelV x v → wpAny (model X.prog X.w) X.A (f v) (EP X pins σ Q) X.xe s
end
section
variable {X : Cx} {e : Expr} {es : List Expr} {st : Stmt} {sts : List Stmt} {σ : L2.St} {H : Hp} {Q Q' : VK}
theorem pe_w : PE X e (wpE X e) := ⟨fun pins s _ _ _ I h => h pins s I⟩
theorem pt_w : PT X e (wpT X e) := ⟨fun pins s _ _ _ I h => h pins s I⟩
theorem pa_w : PA X es (wpA X es) := ⟨fun pos pins s _ _ _ I h => h pos pins s I⟩
theorem ps_w : PS X st (wpS X st) := ⟨fun pins s _ _ _ I h => h pins s I⟩
theorem pss_w : PSs X sts (wpSs X sts) := ⟨fun pins s _ _ _ I h => h pins s I⟩
theorem or_w {f : Value → Value → Sem Value} : OpR X f (wpO X f) := fun pins s σ H x y v u Q I rx ry h => h pins s σ v u I rx ry
theorem ur_w {f : Value → Sem Value} : UnR X f (wpU X f) := fun pins s σ H x v Q I rx h => h pins s σ v I rx
theorem of_pe {t : TE} (h : PE X e t) (q : t σ H Q) : wpE X e σ H Q := fun pins s I => h.run pins s σ H Q I q
theorem of_pt {t : TT} (h : PT X e t) {Q : Bool → Hp → Prop} (q : t σ H Q) : wpT X e σ H Q := fun pins s I => h.run pins s σ H Q I q
theorem of_pa {t : TA} (h : PA X es t) {Q : List V → Hp → Prop} (q : t σ H Q) : wpA X es σ H Q := fun pos pins s I => h.run pos pins s σ H Q I q
theorem of_ps {t : TS} (h : PS X st t) {D : Ends} (q : t D σ H) : wpS X st D σ H := fun pins s I => h.run pins s σ H D I q
theorem of_pss {t : TS} (h : PSs X sts t) {D : Ends} (q : t D σ H) : wpSs X sts D σ H := fun pins s I => h.run pins s σ H D I q
theorem of_or {f : Value → Value → Sem Value} {r : R2} (h : OpR X f r) {x y : V} (q : r x y H Q) : wpO X f x y H Q := fun pins s σ v u I rx ry => h pins s σ H x y v u Q I rx ry q
theorem of_ur {f : Value → Sem Value} {r : V → Hp → VK → Prop} (h : UnR X f r) {x : V} (q : r x H Q) : wpU X f x H Q := fun pins s σ v I rx => h pins s σ H x v Q I rx q
theorem wpE_mono (h : wpE X e σ H Q) (k : ∀ x H', Q x H' → Q' x H') : wpE X e σ H Q' := fun pins s I => thn (h pins s I) fun u s' ⟨x, H', I', r, q⟩ => ⟨x, H', I', r, k x H' q⟩
end
end Mi

/-! Mi3: operators, comparisons, subscripts, built-ins, by values. -/
namespace Mi
open PySem PySem.Spec PyProof.Rows L2

def opB : BOp → Operator
  | .add => .Add | .sub => .Sub | .mul => .Mult | .fdiv => .FloorDiv | .mod => .Mod | .pow => .Pow
def opC : COp → CmpOp
  | .eq => .Eq | .ne => .NotEq | .lt => .Lt | .le => .LtE | .gt => .Gt | .ge => .GtE | .is => .Is | .isnot => .IsNot | .isin => .In | .notin => .NotIn
section
variable {X : Cx}
theorem op_mulM : OpR X (binaryOp .Mult) (rI (fun i j => mulB i j = true) fun i j => .int (i * j)) := opI fun i j _ _ _ _ _ hc q => by
  unfold mulB at hc
  simp only [Bool.or_eq_true, decide_eq_true_eq] at hc
  rcases hc with (hc | hc) | hc
  · refine mul_int q (CMul.ok (.inl ⟨?_, ?_⟩)) <;> omega
  · refine mul_int q (CMul.ok (.inr ⟨?_, ?_⟩)) <;> omega
  · exact mul_int q (CMulW.ok hc)
theorem op_divM : OpR X (binaryOp .FloorDiv) (rI (fun _ j => divB j = true) fun i j => .int (i.fdiv j)) := opI fun i j _ _ _ _ _ hc q => by
  unfold divB at hc
  simp only [Bool.and_eq_true, decide_eq_true_eq] at hc
  exact floordiv_int hc.1 q (.inl (PyProof.noPylong_of_log2 hc.2))
end

section
variable {X : Cx}
theorem op_inT (hu : X.A.units + 65 < cLine) : OpR X (compareOp .In) (fun x y H Q => ∃ d ds, Dp X.K H x d ∧ Dp X.K H y (.tuple ds) ∧ SeqAt.shaped d = true ∧ SeqAt.shaped (.tuple ds) = true ∧ Q (.bl (ds.any fun z => PyData.eqv z d)) H) := by
  intro pins s σ H x y v u Q I rx ry h
  obtain ⟨d, ds, hd, he, sd, se, q⟩ := h
  obtain ⟨as, r1⟩ := Dp.reads I d x v hd rx
  obtain ⟨bs, r2⟩ := Dp.reads I (.tuple ds) y u he ry
  exact SeqAt.in_tuple_reads r2 r1 (SeqAt.canLay_of_shaped se) (SeqAt.canLay_of_shaped sd) (PyProof.Rows.room_in_shaped sd hu) ⟨.bl _, H, I, rfl, q⟩
theorem op_notInT (hu : X.A.units + 65 < cLine) : OpR X (compareOp .NotIn) (fun x y H Q => ∃ d ds, Dp X.K H x d ∧ Dp X.K H y (.tuple ds) ∧ SeqAt.shaped d = true ∧ SeqAt.shaped (.tuple ds) = true ∧ Q (.bl (!ds.any fun z => PyData.eqv z d)) H) := by
  intro pins s σ H x y v u Q I rx ry h
  obtain ⟨d, ds, hd, he, sd, se, q⟩ := h
  obtain ⟨as, r1⟩ := Dp.reads I d x v hd rx
  obtain ⟨bs, r2⟩ := Dp.reads I (.tuple ds) y u he ry
  exact SeqAt.notIn_tuple_reads r2 r1 (SeqAt.canLay_of_shaped se) (SeqAt.canLay_of_shaped sd) (PyProof.Rows.room_in_shaped sd hu) ⟨.bl _, H, I, rfl, q⟩
end
section
variable {X : Cx} {Xn : XnT} {A : Addr → Prop} {H0 : Hp} {s : Sl} {σ : L2.St} {H Hs : Hp} {x y : V} {dx dy : D} {Q : VK}
/-- what stands in the way of a new thing is none -/
theorem fin_dt (R : Rel X.K Xn A H0 s σ H) {d : D} {z : V} (r : Rp (Zs A s σ) X.K H z d)
    (k : ∀ z H', Go X.K Xn A H0 s σ H s σ H' → VR X.K Xn A H0 s σ Hs H' (.dt d) z → Q z H') : Q z H := k z H (Go.refl R) r
theorem bin_sound (hx : XnOk Xn) (R : Rel X.K Xn A H0 s σ H) (hn : ∀ p, H p = none → Hs p = none) {op : BOp} {v : Vl} (e : binD op dx dy = some v) (rx : Rt (Zs A s σ) X.K H x dx) (ry : Rt (Zs A s σ) X.K H y dy)
    (k : ∀ z H', Go X.K Xn A H0 s σ H s σ H' → VR X.K Xn A H0 s σ Hs H' v z → Q z H') : wpO X (binaryOp (opB op)) x y H Q := by
  unfold binD at e
  split at e
  · cases e
    obtain rfl := rx.int_inv
    obtain rfl := ry.int_inv
    exact of_or op_add ⟨_, _, rfl, rfl, fin_dt R (.int _) k⟩
  · split at e
    · rename_i hz
      cases e
      obtain rfl := rx.str_inv
      obtain rfl := ry.str_inv
      exact of_or op_add_str ⟨_, _, rfl, rfl, of_decide_eq_true hz, fin_dt R (.str _) k⟩
    · cases e
  · split at e
    · rename_i hz
      cases e
      obtain ⟨a, xs, rfl, h1, r1⟩ := rx.lst_inv
      obtain ⟨b, ys, rfl, h2, r2⟩ := ry.lst_inv
      refine of_or op_cat ⟨a, b, xs, ys, rfl, rfl, h1, h2, by rw [r1.length, r2.length]; exact of_decide_eq_true hz, fun p hp => ?_⟩
      obtain ⟨g, r⟩ := new_lst hx R (hn p hp) hp (r1.append r2)
      exact k _ _ g r
    · cases e
  · split at e
    · rename_i hz
      cases e
      obtain ⟨w1, a, xs, rfl, h1, r1⟩ := rx.tup_inv
      obtain ⟨w2, b, ys, rfl, h2, r2⟩ := ry.tup_inv
      refine of_or op_catA ⟨a, b, xs, ys, rfl, rfl, h1, h2, by rw [r1.length, r2.length]; exact of_decide_eq_true hz, fun q => ?_, fun _ q => ?_, fun _ _ p hp => ?_⟩
      · subst q
        cases r1
        rw [List.nil_append] at k
        exact fin_dt R w2 k
      · subst q
        cases r2
        rw [List.append_nil] at k
        exact fin_dt R w1 k
      · obtain ⟨g, r⟩ := new_tup hx R hp (r1.append r2)
        exact k _ _ g r
    · cases e
  · cases e
    obtain rfl := rx.int_inv
    obtain rfl := ry.int_inv
    exact of_or op_sub ⟨_, _, rfl, rfl, fin_dt R (.int _) k⟩
  · split at e
    · rename_i hz
      cases e
      obtain rfl := rx.int_inv
      obtain rfl := ry.int_inv
      exact of_or op_mulM ⟨_, _, rfl, rfl, hz, fin_dt R (.int _) k⟩
    · cases e
  · split at e
    · rename_i hz
      cases e
      simp only [Bool.and_eq_true, decide_eq_true_eq] at hz
      obtain ⟨a, xs, rfl, h1, r1⟩ := rx.lst_inv
      obtain rfl := ry.int_inv
      refine of_or op_rep ⟨a, _, xs, rfl, rfl, h1, by omega, by omega, by rw [r1.length]; exact of_decide_eq_true hz.2, fun p hp => ?_⟩
      obtain ⟨g, r⟩ := new_lst hx R (hn p hp) hp (r1.rep _)
      exact k _ _ g r
    · cases e
  · split at e
    · rename_i hz
      cases e
      obtain rfl := rx.int_inv
      obtain rfl := ry.int_inv
      exact of_or op_divM ⟨_, _, rfl, rfl, hz, fin_dt R (.int _) k⟩
    · cases e
  · split at e
    · rename_i hz
      cases e
      obtain rfl := rx.int_inv
      obtain rfl := ry.int_inv
      exact of_or op_modN ⟨_, _, rfl, rfl, of_decide_eq_true hz, fin_dt R (.int _) k⟩
    · cases e
  · split at e
    · rename_i hz
      cases e
      simp only [Bool.and_eq_true, decide_eq_true_eq] at hz
      obtain rfl := rx.int_inv
      obtain rfl := ry.int_inv
      exact of_or op_pow ⟨_, _, rfl, rfl, ⟨hz.1.1, hz.1.2, hz.2⟩, fin_dt R (.int _) k⟩
    · cases e
  · cases e

theorem shaped_noF {d : D} (h : SeqAt.shaped d = true) : noF d = true := noF_lay (SeqAt.canLay_of_shaped h)
theorem Rt.non_iff {A : Addr → Prop} {K : PySem.W.Frag} {H : Hp} {v : V} {d : D} (h : Rt A K H v d) : (v = .non) ↔ (d = .none) := by
  rcases h with h | ⟨a, rfl, ds, xs, rfl, _⟩
  · cases h <;> simp [frzD]
  · simp
theorem is_sound {b : Bool} (e : isD dx dy = some b) (rx : Rt (Zs A s σ) X.K H x dx) (ry : Rt (Zs A s σ) X.K H y dy) :
    (∀ Q : VK, Q (.bl b) H → wpO X (compareOp .Is) x y H Q) ∧ (∀ Q : VK, Q (.bl (!b)) H → wpO X (compareOp .IsNot) x y H Q) := by
  unfold isD at e
  split at e
  · cases e
    obtain rfl := rx.non_inv
    obtain rfl := ry.non_inv
    exact ⟨fun Q q => of_or op_isN ⟨rfl, by simpa using q⟩, fun Q q => of_or op_notN ⟨rfl, by simpa using q⟩⟩
  · rename_i hne
    cases e
    obtain rfl := ry.non_inv
    have hx : decide (x = .non) = false := decide_eq_false fun z => hne (rx.non_iff.mp z)
    exact ⟨fun Q q => of_or op_isN ⟨rfl, by rw [hx]; exact q⟩, fun Q q => of_or op_notN ⟨rfl, by rw [hx]; exact q⟩⟩
  · rename_i a b
    cases e
    obtain rfl := rx.bl_inv
    obtain rfl := ry.bl_inv
    have hd : decide (a = b) = (a == b) := by cases a <;> cases b <;> rfl
    exact ⟨fun Q q => of_or op_isBl ⟨_, _, rfl, rfl, by rw [hd]; exact q⟩, fun Q q => of_or op_notBl ⟨_, _, rfl, rfl, by rw [hd]; exact q⟩⟩
  · cases e
theorem cmp_sound (R : Rel X.K Xn A H0 s σ H) (hu : X.A.units + 65 < cLine) {op : COp} {b : Bool} (e : cmpD op dx dy = some b) (rx : Rt (Zs A s σ) X.K H x dx) (ry : Rt (Zs A s σ) X.K H y dy)
    (k : Q (.bl b) H) : wpO X (compareOp (opC op)) x y H Q := by
  have eqS : ∀ b, eqB dx dy = some b → SeqAt.shaped dx = true ∧ SeqAt.shaped dy = true ∧ b = PyData.eqv dx dy := fun b e => by
    unfold eqB at e
    split at e
    · rename_i h
      rw [Bool.and_eq_true] at h
      exact ⟨h.1, h.2, (Option.some.inj e).symm⟩
    · cases e
  unfold cmpD at e
  split at e
  · obtain ⟨h1, h2, rfl⟩ := eqS _ e
    exact of_or (op_eqD (by omega)) ⟨_, _, rx.dp (shaped_noF h1), ry.dp (shaped_noF h2), h1, h2, k⟩
  · obtain ⟨b', e', rfl⟩ := Option.map_eq_some_iff.mp e
    obtain ⟨h1, h2, rfl⟩ := eqS _ e'
    exact of_or (op_neD (by omega)) ⟨_, _, rx.dp (shaped_noF h1), ry.dp (shaped_noF h2), h1, h2, k⟩
  · cases e
    obtain rfl := rx.int_inv
    obtain rfl := ry.int_inv
    exact of_or op_lt ⟨_, _, rfl, rfl, k⟩
  · cases e
    obtain rfl := rx.int_inv
    obtain rfl := ry.int_inv
    exact of_or op_le ⟨_, _, rfl, rfl, k⟩
  · cases e
    obtain rfl := rx.int_inv
    obtain rfl := ry.int_inv
    exact of_or op_gt ⟨_, _, rfl, rfl, k⟩
  · cases e
    obtain rfl := rx.int_inv
    obtain rfl := ry.int_inv
    exact of_or op_ge ⟨_, _, rfl, rfl, k⟩
  · exact (is_sound e rx ry).1 Q k
  · obtain ⟨b', e', rfl⟩ := Option.map_eq_some_iff.mp e
    exact (is_sound e' rx ry).2 Q k
  · split at e
    · rename_i h
      rw [Bool.and_eq_true] at h
      cases e
      exact of_or (op_inD hu) ⟨_, _, rx.dp (shaped_noF h.1), ry.dp (shaped_noF h.2), h.1, h.2, k⟩
    · cases e
  · split at e
    · rename_i h
      rw [Bool.and_eq_true] at h
      cases e
      exact of_or (op_notInD hu) ⟨_, _, rx.dp (shaped_noF h.1), ry.dp (shaped_noF h.2), h.1, h.2, k⟩
    · cases e
  · split at e
    · rename_i h
      rw [Bool.and_eq_true] at h
      cases e
      exact of_or (op_inT hu) ⟨_, _, rx.dp (shaped_noF h.1), ry.dp (shaped_noF h.2), h.1, h.2, k⟩
    · cases e
  · split at e
    · rename_i h
      rw [Bool.and_eq_true] at h
      cases e
      exact of_or (op_notInT hu) ⟨_, _, rx.dp (shaped_noF h.1), ry.dp (shaped_noF h.2), h.1, h.2, k⟩
    · cases e
  · cases e
    obtain rfl := rx.str_inv
    obtain rfl := ry.str_inv
    exact of_or op_in_str ⟨_, _, rfl, rfl, k⟩
  · cases e
end
end Mi

/-! Mi3c: sorted of tuples of whole numbers, a list or a tuple of them. -/
namespace Mi
open PySem PySem.Spec PyProof.Rows L2
def lexF (fin : Bool) : List Int → List Int → Bool
  | x :: xs, y :: ys => if x = y then lexF fin xs ys else decide (x < y)
  | _, _ => fin
theorem lexF_L : ∀ xs ys : List Int, lexF (decide (xs.length < ys.length)) xs ys = lexL xs ys
  | [], [] => rfl
  | [], _ :: _ => by simp [lexF, lexL]
  | _ :: _, [] => by simp [lexF, lexL]
  | x :: xs, y :: ys => by
    have := lexF_L xs ys
    simp only [lexF, lexL, List.length_cons, Nat.add_lt_add_iff_right, this]
theorem lexL_asym : ∀ x y : List Int, lexL x y = true → lexL y x = false
  | [], [], h => by cases h
  | [], _ :: _, _ => rfl
  | _ :: _, [], h => by cases h
  | x :: xs, y :: ys, h => by
    unfold lexL at h ⊢
    by_cases e : x = y
    · rw [if_pos e] at h
      rw [if_pos e.symm]
      exact lexL_asym xs ys h
    · rw [if_neg e, decide_eq_true_eq] at h
      rw [if_neg (fun z => e z.symm)]
      exact decide_eq_false (by omega)
theorem lexL_tr : ∀ x y z : List Int, lexL y x = false → lexL z y = false → lexL z x = false
  | [], [], [], _, _ => rfl
  | _ :: _, [], _, h, _ => by cases h
  | _, _ :: _, [], _, h => by cases h
  | [], _ :: _, _ :: _, _, _ => rfl
  | [], [], _ :: _, _, _ => rfl
  | x :: xs, y :: ys, z :: zs, h1, h2 => by
    unfold lexL at h1 h2 ⊢
    by_cases e : y = x
    · rw [if_pos e] at h1
      by_cases e2 : z = y
      · rw [if_pos e2] at h2
        rw [if_pos (e2.trans e)]
        exact lexL_tr xs ys zs h1 h2
      · rw [if_neg e2, decide_eq_false_iff_not] at h2
        rw [if_neg (by omega)]
        exact decide_eq_false (by omega)
    · rw [if_neg e, decide_eq_false_iff_not] at h1
      by_cases e2 : z = y
      · rw [if_neg (by omega)]
        exact decide_eq_false (by omega)
      · rw [if_neg e2, decide_eq_false_iff_not] at h2
        rw [if_neg (by omega)]
        exact decide_eq_false (by omega)
theorem swo_lexL {α : Type} (k : α → List Int) : SrtO.Swo fun v u => lexL (k v) (k u) := ⟨fun x y h => lexL_asym _ _ h, fun x y z h1 h2 => lexL_tr _ _ _ h1 h2⟩
theorem lexL_total : ∀ x y : List Int, lexL x y = false → lexL y x = false → x = y
  | [], [], _, _ => rfl
  | [], _ :: _, h, _ => by cases h
  | _ :: _, [], _, h => by cases h
  | x :: xs, y :: ys, h1, h2 => by
    unfold lexL at h1 h2
    by_cases e : x = y
    · rw [if_pos e] at h1
      rw [if_pos e.symm] at h2
      rw [e, lexL_total xs ys h1 h2]
    · rw [if_neg e, decide_eq_false_iff_not] at h1
      rw [if_neg (fun z => e z.symm), decide_eq_false_iff_not] at h2
      omega
/-- v is a tuple of these numbers in the heap -/
def IsTI (h : Heap) (v : Value) (ns : List Int) : Prop := ∃ a o its n, v = .ref a ∧ h.get? a = some o ∧ o.cls = .type "tuple" ∧ o.data = .seq (List.toArray its) n ∧ Vals (ns.map V.int) its
theorem IsTI.keeps {h h' : Heap} {v : Value} {ns : List Int} (p : IsTI h v ns) (k : ∀ b o, h.get? b = some o → o.cls = .type "tuple" → h'.get? b = some o) : IsTI h' v ns := by
  obtain ⟨a, o, its, n, e, ho, hc, hd, r⟩ := p
  exact ⟨a, o, its, n, e, k _ _ ho hc, hc, hd, r⟩
section
variable {prog : Program} {w : World} {A : Around} {s : Shared}
theorem kat_ints {fin : Bool} {Q : Bool → Shared → Prop} : ∀ (xs ys : List Int) (us vs : List Value) (i : Nat), Vals (xs.map V.int) us → Vals (ys.map V.int) vs → Q (lexF fin xs ys) s → PySem.W.KatLex prog w A true fin Q (us.zip vs) i s
  | [], ys, _, vs, i, .nil, _, h => by
    have e : lexF fin [] ys = fin := by cases ys <;> rfl
    rw [e] at h
    exact PySem.W.kat_nil h
  | x :: xs, [], _, _, i, .cons _ _, .nil, h => PySem.W.kat_nil h
  | x :: xs, y :: ys, _, _, i, .cons r rs, .cons q qs, h => by
    obtain ⟨t, rfl⟩ := r
    obtain ⟨t', rfl⟩ := q
    show PySem.W.KatLex prog w A true fin Q ((Value.int x t, Value.int y t') :: _) i s
    refine PySem.W.kat_cons (SeqAt.EqAt.int_int x t y t' prog w _ _ ?_)
    refine PySem.W.kat_go (fun e1 => ?_) (fun e1 => ?_)
    · have ex : x = y := by simpa using e1
      unfold lexF at h
      rw [if_pos ex] at h
      exact PySem.W.kat_yes (kat_ints xs ys _ _ (i + 1) rs qs h)
    · have ex : ¬ x = y := by simpa using e1
      unfold lexF at h
      rw [if_neg ex] at h
      exact PySem.W.kat_no (TS.oneLt_ints _ h)
theorem ti_cmp {vs : List Value} {k : Value → List Int} (hp : ∀ v ∈ vs, IsTI s.heap v (k v)) : SrtO.Cmp prog w A s (tuples' true) (fun p => p.1 ∈ vs) (SrtO.lt2 fun v u => lexL (k v) (k u)) := by
  intro p q hm hm'
  have h1 := hp _ hm
  have h2 := hp _ hm'
  show wpAny (model prog w) A (keyLt' (tuples' true) p.1 q.1) (fun r s' => s' = s ∧ r = lexL (k p.1) (k q.1)) (fun _ _ => False) s
  generalize k p.1 = xs at h1 ⊢
  generalize k q.1 = ys at h2 ⊢
  obtain ⟨a, o, us, n, e, ho, hc, hd, r⟩ := h1
  obtain ⟨a', o', vs', n', e', ho', hc', hd', r'⟩ := h2
  rw [e, e']
  refine PySem.W.kat_lt ho hd ho' hd' ?_
  have l1 := r.length
  have l2 := r'.length
  simp only [List.length_map] at l1 l2
  simp only [List.size_toArray]
  refine kat_ints xs ys us vs' 0 r r' ⟨rfl, ?_⟩
  rw [← l1, ← l2]
  exact lexF_L _ _
theorem ti_firsts {h : Heap} {k : Value → List Int} : ∀ {vs : List Value}, (∀ v ∈ vs, IsTI h v (k v) ∧ k v ≠ []) → ∃ fs : List Value, PySem.W.KatTups h vs fs ∧ fs.length = vs.length ∧ ∀ f ∈ fs, ∃ x t, f = Value.int x t
  | [], _ => ⟨[], PySem.W.KatTups.nil, rfl, fun _ hm => by simp at hm⟩
  | v :: vs, hp => by
    obtain ⟨fs, h1, h2, h3⟩ := ti_firsts (vs := vs) fun v' hm => hp v' (List.mem_cons_of_mem _ hm)
    obtain ⟨⟨a, o, its, n, e, ho, hc, hd, r⟩, hne⟩ := hp v (List.mem_cons_self ..)
    generalize k v = ns at r hne
    subst e
    cases ns with
    | nil => exact absurd rfl hne
    | cons x xs =>
      cases r with
      | cons q r =>
        obtain ⟨t, rfl⟩ := q
        refine ⟨.int x t :: fs, PySem.W.KatTups.cons ho hc hd (by simp) h1, by rw [List.length_cons, List.length_cons, h2], fun f hm => ?_⟩
        rcases List.mem_cons.mp hm with rfl | hm
        · exact ⟨x, t, rfl⟩
        · exact h3 f hm
theorem ti_sortableO {a : Addr} {vs : List Value} {k : Value → List Int} (h0 : 0 < vs.length) (hp : ∀ v ∈ vs, IsTI s.heap v (k v) ∧ k v ≠ []) (ha : ∀ o, s.heap.get? a = some o → o.cls ≠ .type "tuple") : SrtO.SortableO prog w A s a vs fun v u => lexL (k v) (k u) := by
  intro h' keep
  have hp' : ∀ v ∈ vs, IsTI h' v (k v) ∧ k v ≠ [] := fun v hm => ⟨(hp v hm).1.keeps fun b o e c => keep b o (fun z => by subst z; exact ha o e c) e, (hp v hm).2⟩
  obtain ⟨fs, h1, h2, h3⟩ := ti_firsts hp'
  refine ⟨tuples' true, fun Q E hq => ?_, ti_cmp fun v hv => (hp' v hv).1⟩
  refine PySem.W.kat_kind (T := .type "int") h1 (by omega) (fun f hm => ?_) (by rfl) ?_
  · obtain ⟨x, t, rfl⟩ := h3 f hm
    exact PySem.W.Looks.now
  · have e : (Value.type "int" != Value.type "tuple") = true := by first | decide +kernel | rfl | decide
    rw [e]
    exact hq
variable {E : Value → Shared → Prop}
theorem collect_tup {l : Addr} {vs : List Value} {Q : List Value → Shared → Prop} (hl : IsTup s.heap l vs.toArray)
    (h : Q vs { s with heap := (s.heap.push (seqObj "list" #[] 0)).update s.heap.objs.size (Obj.mapSeq (· ++ vs.toArray)) }) (hsz : vs.length ≤ sizeLine) :
    wpAny (model prog w) A (collect (.ref l)) Q E s := by
  obtain ⟨o, ho, hc, n, hd⟩ := id hl
  unfold collect
  refine wpAny_bind (wpAny_runValue (codeAny_builtin entry_proto_collect' ?_))
  show wpAny _ _ (do again (.builtin "list.__iadd__" ⟨[← newList [], .ref l], []⟩)) _ _ s
  refine wpAny_bind (wpAny_newList (wpAny_pure ⟨Code.quiet_builtin _ (by decide +kernel), codeAny_builtin entry_list_iadd' ?_⟩))
  show wpAny _ _ (Builtin.List.listExtendWith (.ref s.heap.objs.size) (.ref l) (.ref s.heap.objs.size)) _ _ { s with heap := s.heap.push (seqObj "list" #[] 0) }
  unfold Builtin.List.listExtendWith
  have ho' : (s.heap.push (seqObj "list" #[] 0)).get? l = some o := Heap.get?_push_of_some _ ho
  refine wpAny_bind (wpAny_typeOf (T := "tuple") ⟨o, ho', hc⟩ ?_)
  have ht : (Value.type "tuple" == Value.type "tuple") = true := by rfl
  rw [if_pos (by rw [ht]; simp)]
  refine wpAny_bind (listItems_at ho' hd ?_)
  refine wpAny_bind (listItems_at (xs := #[]) (n := 0) (Heap.get?_push_size _ rfl) rfl ?_)
  rw [if_neg (by simp)]
  refine wpAny_bind (listUpdate_at (xs := #[]) (n := 0) (Heap.get?_push_size _ rfl) rfl ?_ (Nat.zero_le _) (by show (#[] ++ vs.toArray).size ≤ sizeLine + 1; simp only [Array.size_append, List.size_toArray, List.length_nil]; omega))
  refine wpAny_pure ?_
  show wpAny (model prog w) A (do
      let o ← load s.heap.objs.size
      match o.data with
      | .seq xs _ => pure xs.toList
      | _ => unsupported "internal:collect") Q E { s with heap := (s.heap.push (seqObj "list" #[] 0)).update s.heap.objs.size (Obj.mapSeq (· ++ vs.toArray)) }
  refine wpAny_bind (wpAny_load (get?_update_seq (Heap.get?_push_size _ rfl) _) ?_)
  show wpAny _ _ (pure ((#[] : Array Value) ++ vs.toArray).toList) Q E _
  rw [show ((#[] : Array Value) ++ vs.toArray).toList = vs by simp]
  exact wpAny_pure h
/-- sorted, of what is collected so -/
theorem sorted_ordC {l : Addr} {vs : List Value} {ltv : Value → Value → Bool} {Q : Value → Shared → Prop} (O : SrtO.Swo ltv)
    (hcol : ∀ {A : Around} {E : Value → Shared → Prop} {Q : List Value → Shared → Prop}, Q vs { s with heap := (s.heap.push (seqObj "list" #[] 0)).update s.heap.objs.size (Obj.mapSeq (· ++ vs.toArray)) } → wpAny (model prog w) A (collect (.ref l)) Q E s) (hz : vs.length ≤ sizeLine)
    (hS : 2 ≤ vs.length → ∀ (h₁ : Heap) (a : Addr), h₁.get? a = some (seqObj "list" vs.toArray 0) → (∀ b o, s.heap.get? b = some o → b ≠ a ∧ h₁.get? b = some o) → SrtO.SortableO prog w A.in1.in1 { s with heap := h₁ } a vs ltv)
    (h : ∀ out : List Value, SrtO.Srtd ltv out → SrtO.Stb ltv out vs → Q (.ref (s.heap.objs.size + 1)) { s with heap := PyProof.Rows.sortedAll s.heap vs out.toArray }) :
    wpAny (model prog w) A (call (.builtin "sorted") [.ref l]) Q E s := by
  refine Calls.call_function_entry kind_sorted plain_sorted entry_sorted (args_sorted1 _) ?_
  unfold Builtin.«sorted»
  refine wpAny_bind (m := checkCount "sorted" 1 1 _) (wpAny_pure ?_)
  refine wpAny_bind (hcol ?_)
  refine wpAny_bind (wpAny_newList ?_ hz)
  have hsz : ((s.heap.push (seqObj "list" #[] 0)).update s.heap.objs.size (Obj.mapSeq (· ++ vs.toArray))).objs.size = s.heap.objs.size + 1 := by
    rw [Heap.size_update, size_push']
  have hoL : (((s.heap.push (seqObj "list" #[] 0)).update s.heap.objs.size (Obj.mapSeq (· ++ vs.toArray))).push (seqObj "list" vs.toArray 0)).get? (s.heap.objs.size + 1) = some (seqObj "list" vs.toArray 0) := by
    rw [← hsz]; exact Heap.get?_push_size _ rfl
  have keep : ∀ b o, s.heap.get? b = some o → b ≠ s.heap.objs.size + 1 ∧ (((s.heap.push (seqObj "list" #[] 0)).update s.heap.objs.size (Obj.mapSeq (· ++ vs.toArray))).push (seqObj "list" vs.toArray 0)).get? b = some o := fun b o q => by
    have hlt : b < s.heap.objs.size := Heap.lt_size q
    refine ⟨Nat.ne_of_lt (Nat.lt_succ_of_lt hlt), Heap.get?_push_of_some _ ?_⟩
    rw [Heap.get?_update_ne _ _ _ _ (Nat.ne_of_lt hlt)]
    exact Heap.get?_push_of_some _ q
  show wpAny _ _ _ _ _ { s with heap := ((s.heap.push (seqObj "list" #[] 0)).update s.heap.objs.size (Obj.mapSeq (· ++ vs.toArray))).push (seqObj "list" vs.toArray 0) }
  rw [hsz]
  refine wpAny_bind (wpAny_holding (wpAny_call_entry slot_list_sort ⟨_, hoL, rfl⟩ entry_list_sort (SrtO.list_sort_ord O hoL hz (fun h2 => hS h2 _ _ hoL keep) fun out hs hb => ⟨_, rfl, ?_⟩) (args_list_sort _)))
  exact wpAny_pure ⟨_, rfl, h out hs hb⟩
end
/-- a list or a tuple -/
def SqA (K : PySem.W.Frag) (H : Hp) (a : Addr) (xs : List V) : Prop := SqL K H a xs ∨ SqT K H a xs
/-- sorted(xs): k says each one's numbers -/
def rSortedTI (K : PySem.W.Frag) : List V → Hp → VK → Prop := fun vs H Q => ∃ (a : Addr) (xs : List V) (k : V → List Int), vs = [V.ref a] ∧ SqA K H a xs ∧ (∀ x ∈ xs, k x ≠ [] ∧ ∃ t, x = V.ref t ∧ SqT K H t ((k x).map V.int)) ∧
  ∀ ys p, SrtO.Srtd (fun x y => lexL (k x) (k y)) ys → SrtO.Stb (fun x y => lexL (k x) (k y)) ys xs → H p = none → Q (.ref p) (upd H p (.lst ys))
theorem cr_sortedTI {X : Cx} : CallR X (.builtin "sorted") (rSortedTI X.K) := by
  intro pins s σ H vs us Q I r h
  obtain ⟨a, xs, k, rfl, hs, hx, q⟩ := h
  obtain ⟨u, rfl, ru⟩ := vals1 r
  obtain rfl : u = Value.ref a := ru
  have both : ∃ its : List Value, Vals xs its ∧ xs.length ≤ sizeLine ∧ ∀ {A : Around} {E : Value → Shared → Prop} {Q : List Value → Shared → Prop}, Q its { s with heap := (s.heap.push (seqObj "list" #[] 0)).update s.heap.objs.size (Obj.mapSeq (· ++ its.toArray)) } → wpAny (model X.prog X.w) A (collect (.ref a)) Q E s := by
    rcases hs with hs | hs
    · obtain ⟨its, rv, hl, hz⟩ := I.list hs
      exact ⟨its, rv, hz, fun h => collect_list hl.isList h (by rw [← rv.length]; exact hz)⟩
    · obtain ⟨its, rv, hl, hz⟩ := I.tuple hs
      exact ⟨its, rv, hz, fun h => collect_tup hl h (by rw [← rv.length]; exact hz)⟩
  obtain ⟨its, rv, hz, hcol⟩ := both
  obtain ⟨e1, e2⟩ := refs_back rv fun x m => by
    obtain ⟨_, t, e, _⟩ := hx x m
    exact ⟨t, e⟩
  have hp : ∀ v ∈ its, IsTI s.heap v (k (backV v)) ∧ k (backV v) ≠ [] := fun v hv => by
    obtain ⟨t, rfl⟩ := e2 v hv
    have hm : V.ref t ∈ xs := by rw [e1]; exact List.mem_map.mpr ⟨_, hv, rfl⟩
    obtain ⟨hne, t', e, ht⟩ := hx _ hm
    cases e
    obtain ⟨its2, r2, ⟨o, ho, hc, n, hd⟩, _⟩ := I.tuple ht
    exact ⟨⟨t, o, its2, n, rfl, ho, hc, hd, r2⟩, hne⟩
  refine sorted_ordC (swo_lexL fun u => k (backV u)) hcol (by rw [← rv.length]; exact hz) (fun h2 h₁ a ha kk => ?_) fun out h1 h2 => ?_
  · refine ti_sortableO (s := { s with heap := h₁ }) (by omega) (fun v hm => ⟨(hp v hm).1.keeps fun b o e _ => (kk b o e).2, (hp v hm).2⟩) fun o e => ?_
    have e' : some o = some (seqObj "list" its.toArray 0) := e.symm.trans ha
    cases e'
    intro c
    exact absurd (Value.type.inj c) (by decide)
  · have h3 : ∀ u ∈ out, ∃ a, u = Value.ref a := fun u hu => e2 u (h2.perm.mem_iff.mp hu)
    obtain ⟨n, hn⟩ := PyProof.Rows.sortedAll_at s.heap its out.toArray
    have hb : SrtO.Stb (fun x y => lexL (k x) (k y)) (out.map backV) xs := by
      rw [e1]
      exact SrtO.Stb.map (swo_lexL k) backV h2
    refine ⟨.ref (s.heap.objs.size + 1), upd H (s.heap.objs.size + 1) (.lst (out.map backV)), I.laid (t' := s.toks) (fun b o e => PyProof.Rows.sortedAll_old e) (Nat.le_succ _) ⟨?_, out, n, vals_back h3, hn⟩, rfl, q _ _ (SrtO.srtd_map h1) hb (I.hok.fresh (Nat.le_succ _))⟩
    rw [hb.len]
    exact hz
/-! sortL is a sort -/
theorem insL_perm (x : List Int) : ∀ l, (insL x l).Perm (x :: l)
  | [] => List.Perm.refl _
  | y :: ys => by
    unfold insL
    split
    · exact ((insL_perm x ys).cons y).trans (List.Perm.swap x y ys)
    · exact List.Perm.refl _
theorem sortL_perm : ∀ l, (sortL l).Perm l
  | [] => List.Perm.refl _
  | x :: xs => (insL_perm x (sortL xs)).trans ((sortL_perm xs).cons x)
abbrev SrtdL (l : List (List Int)) : Prop := SrtO.Srtd lexL l
theorem insL_srtd (x : List Int) : ∀ l, SrtdL l → SrtdL (insL x l)
  | [], _ => SrtO.srtd_one x
  | y :: ys, h => by
    unfold insL
    have h1 := SrtO.srtd_head h
    have h2 : SrtdL ys := (List.pairwise_cons.mp h).2
    split
    · rename_i e
      refine List.pairwise_cons.mpr ⟨fun z hz => ?_, insL_srtd x ys h2⟩
      rcases List.mem_cons.mp ((insL_perm x ys).mem_iff.mp hz) with rfl | hz
      · exact lexL_asym _ _ e
      · exact h1 z hz
    · rename_i e
      have e' : lexL y x = false := by simpa using e
      refine List.pairwise_cons.mpr ⟨fun z hz => ?_, h⟩
      rcases List.mem_cons.mp hz with rfl | hz
      · exact e'
      · exact lexL_tr x y z e' (h1 z hz)
theorem sortL_srtd : ∀ l, SrtdL (sortL l)
  | [] => List.Pairwise.nil
  | x :: xs => insL_srtd x _ (sortL_srtd xs)
theorem eqv_eq {x y : List Int} : SrtO.eqv lexL x y = decide (x = y) := by
  by_cases h : x = y
  · subst h
    rw [decide_eq_true rfl]
    exact SrtO.eqv_iff.mpr ⟨(swo_lexL id).refl x, (swo_lexL id).refl x⟩
  · rw [decide_eq_false h]
    cases e : SrtO.eqv lexL x y with
    | false => rfl
    | true =>
      obtain ⟨h1, h2⟩ := SrtO.eqv_iff.mp e
      exact absurd (lexL_total x y h1 h2) h
theorem perm_stb {l m : List (List Int)} (h : l.Perm m) : SrtO.Stb lexL l m := ⟨h, fun x => by
  have e : SrtO.eqv lexL x = fun y => decide (x = y) := funext fun y => eqv_eq
  rw [e]
  have c := h.count_eq x
  have f : ∀ l : List (List Int), l.filter (fun y => decide (x = y)) = List.replicate (l.count x) x := fun l => by
    induction l with
    | nil => rfl
    | cons y l ih =>
      by_cases e : x = y
      · subst e
        simp [List.filter_cons, ih, List.replicate_succ]
      · have e' : ¬ y = x := fun z => e z.symm
        simp [List.filter_cons, e, ih, List.count_cons, e']
  rw [f, f, c]⟩
theorem srt_uniq {l m : List (List Int)} (h : SrtdL l) (h2 : l.Perm m) : l = sortL m :=
  SrtO.stb_uniq (swo_lexL id) h (sortL_srtd m) (perm_stb (h2.trans (sortL_perm m).symm))
/-! ### any of a tuple of whole numbers -/
theorem vals_int_at : ∀ {ns : List Int} {its : List Value}, Vals (ns.map V.int) its → its.length = ns.length ∧ ∀ (i : Nat) (v : Value), its[i]? = some v → ∃ t, v = .int (ns.getD i 0) t
  | [], _, .nil => ⟨rfl, fun i v h => by simp at h⟩
  | n :: ns, _, .cons r rr => by
    obtain ⟨l, f⟩ := vals_int_at rr
    refine ⟨by simp [l], fun i v h => ?_⟩
    cases i with
    | zero =>
      simp at h
      subst h
      obtain ⟨t, e⟩ := r
      exact ⟨t, e⟩
    | succ i => exact f i v (by simpa using h)
theorem truth_ints {prog : Program} {w : World} {A : Around} {ns : List Int} {its : List Value} (rv : Vals (ns.map V.int) its) :
    TruthOf prog w A (fun i v => its.toArray[i]? = some v) (fun i => ns.getD i 0 != 0) := fun i v s Q E hv hq => by
  obtain ⟨t, rfl⟩ := (vals_int_at rv).2 i v (by simpa using hv)
  exact truthy_int hq
theorem any_rangeI : ∀ ns : List Int, (List.range ns.length).any (fun i => ns.getD i 0 != 0) = ns.any (· != 0)
  | [] => rfl
  | n :: ns => by
    rw [List.length_cons, List.range_succ_eq_map, List.any_cons, List.any_map, List.any_cons, ← any_rangeI ns]
    all_goals rfl
section
variable {X : Cx}
def rAnyT (K : PySem.W.Frag) : List V → Hp → VK → Prop := fun vs H Q => ∃ (a : Addr) (ns : List Int), vs = [V.ref a] ∧ SqT K H a (ns.map V.int) ∧ Q (.bl (ns.any (· != 0))) H
theorem cr_anyT (hc : X.calm = true) : CallR X (.builtin "any") (rAnyT X.K) := by
  intro pins s σ H vs us Q I r h
  obtain ⟨a, ns, rfl, hs, q⟩ := h
  obtain ⟨its, rv, hl, _⟩ := I.tuple hs
  rw [Vals.ref1 r]
  have hlt : a < s.heap.objs.size := by obtain ⟨_, e, _⟩ := hl; exact Heap.lt_size e
  refine call_any_walk (wpAny_pyIter_tuple hl ?_)
  refine ⟨_, _, _, _, _, _, _, rfl, Walks.tuple (A := X.A.in1) (I.ok.hd hc) _ a (Nat.ne_of_lt hlt) its.toArray, ⟨⟨_, Heap.get?_push_size _ rfl, rfl, rfl⟩, Heap.IsTuple.push hl _⟩, truth_ints rv, fun h' tk hk => ?_⟩
  refine ⟨.bl _, H, I.kept fun b o eo => hk b o (fun hmem => ?_) (Heap.get?_push_of_some _ eo), ?_, q⟩
  · rcases List.mem_cons.mp hmem with e1 | hmem
    · exact absurd (e1 ▸ Heap.lt_size eo) (Nat.lt_irrefl _)
    · cases hmem
  · show Value.bool _ = Value.bool _
    rw [← any_rangeI, List.size_toArray, (vals_int_at rv).1]
end
end Mi

/-! Mi3b: subscripts, slices, built-ins, methods. -/
namespace Mi
open PySem PySem.Spec PyProof.Rows L2

section
variable {X : Cx} {Xn : XnT} {A : Addr → Prop} {H0 : Hp} {s : Sl} {σ : L2.St} {H Hs : Hp} {x y : V} {dx dy d : D} {Q : VK}
theorem RpAll.atI {A : Addr → Prop} {K : PySem.W.Frag} {xs : List V} {ds : List D} {i : Int} {d : D} (r : RpAll A K H xs ds) (e : L2.atI ds i = some d) : ∃ v, L2.atI xs i = some v ∧ Rp A K H v d := by
  unfold L2.atI at e ⊢
  rw [r.length]
  cases q : ixN ds.length i with
  | none => rw [q] at e; cases e
  | some j =>
    rw [q] at e
    exact r.get (i := j) e
theorem ix_sound (R : Rel X.K Xn A H0 s σ H) (e : ixD dx dy = some d) (rx : Rt (Zs A s σ) X.K H x dx) (ry : Rt (Zs A s σ) X.K H y dy)
    (k : ∀ z H', Go X.K Xn A H0 s σ H s σ H' → VR X.K Xn A H0 s σ Hs H' (.dt d) z → Q z H') : rIx X.K x y H Q := by
  unfold ixD at e
  split at e
  · obtain ⟨a, xs, rfl, h1, r1⟩ := rx.lst_inv
    obtain rfl := ry.int_inv
    obtain ⟨v, e1, r2⟩ := r1.atI e
    exact .inl ⟨a, xs, _, v, rfl, rfl, SqL.of h1, e1, fin_dt R r2 k⟩
  · obtain ⟨_, a, xs, rfl, h1, r1⟩ := rx.tup_inv
    obtain rfl := ry.int_inv
    obtain ⟨v, e1, r2⟩ := r1.atI e
    exact .inr (.inl ⟨a, xs, _, v, rfl, rfl, h1, e1, fin_dt R r2 k⟩)
  · split at e
    · rename_i hz
      obtain rfl := rx.str_inv
      obtain rfl := ry.int_inv
      obtain ⟨c, e1, rfl⟩ := Option.map_eq_some_iff.mp e
      exact .inr (.inr ⟨_, _, c, rfl, rfl, of_decide_eq_true hz, e1, fin_dt R (.str _) k⟩)
    · cases e
  · cases e
def rSlM (K : PySem.W.Frag) : V → Option Int → Option Int → Hp → VK → Prop := fun x lo hi H Q => rSlL K x lo hi H Q ∨ (fun x lo hi H Q => rSlA K x lo hi H Q ∨ rSlS x lo hi H Q) x lo hi H Q
theorem sl_m : SlR X (rSlM X.K) := sl_list.or (sl_tupA.or sl_str)
theorem RpAll.cut {A : Addr → Prop} {K : PySem.W.Frag} {xs : List V} {ds : List D} (r : RpAll A K H xs ds) (lo hi : Option Int) : RpAll A K H (cutV xs lo hi) (cutD ds lo hi) := by
  unfold cutV cutD
  rw [r.length]
  exact (r.drop _).take _
theorem slc_sound (hx : XnOk Xn) (R : Rel X.K Xn A H0 s σ H) (hn : ∀ p, H p = none → Hs p = none) {lo hi : Option Int} {v : Vl} (e : slcD dx lo hi = some v) (rx : Rt (Zs A s σ) X.K H x dx)
    (k : ∀ z H', Go X.K Xn A H0 s σ H s σ H' → VR X.K Xn A H0 s σ Hs H' v z → Q z H') : rSlM X.K x lo hi H Q := by
  unfold slcD at e
  split at e
  · cases e
    obtain ⟨a, xs, rfl, h1, r1⟩ := rx.lst_inv
    refine .inl ⟨a, xs, rfl, SqL.of h1, fun p hp => ?_⟩
    obtain ⟨g, r⟩ := new_lst hx R (hn p hp) hp (r1.cut _ _)
    exact k _ _ g r
  · cases e
    obtain ⟨a, xs, rfl, h1, r1⟩ := Rt.frz_inv rx
    refine .inl ⟨a, xs, rfl, h1, fun p hp => ?_⟩
    obtain ⟨g, r⟩ := new_lst hx R (hn p hp) hp (r1.cut _ _)
    exact k _ _ g r
  · cases e
    rename_i ds
    obtain ⟨w, a, xs, rfl, h1, r1⟩ := rx.tup_inv
    refine .inr (.inl ⟨a, xs, rfl, h1, fun ⟨q1, q2⟩ => ?_, fun _ p hp => ?_⟩)
    · have ec : cutD ds lo hi = ds := by
        unfold cutD
        rw [← r1.length, q1, q2, List.drop_zero]
        exact List.take_of_length_le (by rw [← r1.length]; omega)
      rw [ec] at k
      exact fin_dt R w k
    · obtain ⟨g, r⟩ := new_tup hx R hp (r1.cut _ _)
      exact k _ _ g r
  · split at e
    · rename_i hz
      cases e
      obtain rfl := rx.str_inv
      exact .inr (.inr ⟨_, rfl, of_decide_eq_true hz, fin_dt R (.str _) k⟩)
    · cases e
  · cases e

/-! ### built-ins -/
def bltV : Blt → Value
  | .abs => .builtin "abs" | .len => .builtin "len" | .sum => .builtin "sum" | .all => .builtin "all" | .any => .builtin "any" | .min => .builtin "min" | .max => .builtin "max" | .sorted => .builtin "sorted"
  | .int => .type "int" | .tuple => .type "tuple" | .list => .type "list" | .str => .type "str" | .dict => .type "dict"
def bltS : Blt → Str
  | .abs => "abs" | .len => "len" | .sum => "sum" | .all => "all" | .any => "any" | .min => "min" | .max => "max" | .sorted => "sorted"
  | .int => "int" | .tuple => "tuple" | .list => "list" | .str => "str" | .dict => "dict"
def wpC (X : Cx) (f : Value) : List V → Hp → VK → Prop := fun xs H Q => ∀ (pins : List (Addr × Obj)) (s : Shared) (σ : L2.St) (us : List Value), Inv X pins σ H s → Vals xs us → wpAny (model X.prog X.w) X.A (call f us) (EP X pins σ Q) X.xe s
theorem cr_w {f : Value} : CallR X f (wpC X f) := fun pins s σ H xs us Q I r h => h pins s σ us I r
theorem of_cr {f : Value} {r : List V → Hp → VK → Prop} (h : CallR X f r) {xs : List V} (q : r xs H Q) : wpC X f xs H Q := fun pins s σ us I rv => h pins s σ H xs us Q I rv q
theorem pr1 {α β : Type} {F : α → β → Prop} {xs : List α} {b : β} (h : Paired F xs [b]) : ∃ a, xs = [a] ∧ F a b := by
  cases h with
  | cons h r => cases r; exact ⟨_, rfl, h⟩
theorem pr2 {α β : Type} {F : α → β → Prop} {xs : List α} {b c : β} (h : Paired F xs [b, c]) : ∃ a a', xs = [a, a'] ∧ F a b ∧ F a' c := by
  cases h with
  | cons h r =>
    obtain ⟨a', rfl, h'⟩ := pr1 r
    exact ⟨_, _, rfl, h, h'⟩
theorem RpAll.tis {A : Addr → Prop} {K : PySem.W.Frag} {H : Hp} : ∀ {xs : List V} {ds : List D} {ps : List (List Int)}, RpAll A K H xs ds → tisOf ds = some ps → Paired (fun x ns => ns ≠ [] ∧ Rp A K H x (.tuple (ns.map .int))) xs ps
  | _, _, _, .nil, e => by cases e; exact .nil
  | _, d :: ds, ps, .cons h r, e => by
    cases d with
    | tuple es =>
      unfold tisOf at e
      split at e
      · rename_i n ns q
        split at e
        · rename_i ps' q2
          cases e
          refine .cons ⟨by simp, ?_⟩ (RpAll.tis r q2)
          have : es = (n :: ns).map PyData.int := by
            have g : ∀ {es : List D} {ms : List Int}, intsOf es = some ms → es = ms.map PyData.int := by
              intro es
              induction es with
              | nil => intro ms h; cases h; rfl
              | cons d es ih =>
                intro ms h
                cases d with
                | int i =>
                  unfold intsOf at h
                  split at h
                  · rename_i ms' e
                    cases h
                    rw [ih e]
                    rfl
                  · cases h
                | _ => simp [intsOf] at h
            exact g q
          rw [← this]
          exact h
        · cases e
      · cases e
    | _ => simp [tisOf] at e
theorem mapi_inj : ∀ {a b : List Int}, a.map V.int = b.map V.int → a = b
  | [], [], _ => rfl
  | [], _ :: _, h => by cases h
  | _ :: _, [], h => by cases h
  | x :: xs, y :: ys, h => by
    simp only [List.map_cons, List.cons.injEq, V.int.injEq] at h
    rw [h.1, mapi_inj h.2]
theorem paired_mem {α β : Type} {F : α → β → Prop} {x : α} : ∀ {xs : List α} {ys : List β}, Paired F xs ys → x ∈ xs → ∃ y ∈ ys, F x y
  | _, _, .cons h r, hx => by
    rcases List.mem_cons.mp hx with rfl | hx
    · exact ⟨_, List.mem_cons_self, h⟩
    · obtain ⟨y, hy, f⟩ := paired_mem r hx
      exact ⟨y, List.mem_cons_of_mem _ hy, f⟩
theorem rp_ints_mk {A : Addr → Prop} {K : PySem.W.Frag} {H : Hp} {ns : List Int} {xs : List V} (r : RpAll A K H xs (ns.map PyData.int)) : xs = ns.map V.int := r.ints (by
  induction ns generalizing xs with
  | nil => rfl
  | cons n ns ih =>
    cases r with
    | cons h r => rw [List.map_cons, intsOf, ih r])
open Classical in
theorem sorted_sound (hx : XnOk Xn) (R : Rel X.K Xn A H0 s σ H) (hn : ∀ p, H p = none → Hs p = none) {a : Addr} {xs : List V} {ds : List D} {ps : List (List Int)} (hs : SqA X.K H a xs) (r : RpAll (Zs A s σ) X.K H xs ds) (e : tisOf ds = some ps)
    (k : ∀ z H', Go X.K Xn A H0 s σ H s σ H' → VR X.K Xn A H0 s σ Hs H' (.nw (.list ((sortL ps).map tupD))) z → Q z H') : wpC X (.builtin "sorted") [.ref a] H Q := by
  intro pins s0 σ0 us I rv
  have pr := r.tis e
  let kf : V → List Int := fun v => if h : ∃ (ns : List Int) (t : Addr), v = V.ref t ∧ SqT X.K H t (ns.map V.int) then h.choose else []
  have kfe : ∀ x ns, Rp (Zs A s σ) X.K H x (.tuple (ns.map .int)) → kf x = ns ∧ ∃ t, x = V.ref t ∧ SqT X.K H t (ns.map V.int) := fun x ns h => by
    obtain ⟨t, ys, rfl, h1, r1⟩ := h.tup_inv
    obtain rfl := rp_ints_mk r1
    have hh : ∃ (ns' : List Int) (t' : Addr), V.ref t = V.ref t' ∧ SqT X.K H t' (ns'.map V.int) := ⟨ns, t, rfl, h1⟩
    refine ⟨?_, t, rfl, h1⟩
    show (if h : ∃ (ns' : List Int) (t' : Addr), V.ref t = V.ref t' ∧ SqT X.K H t' (ns'.map V.int) then h.choose else []) = ns
    rw [dif_pos hh]
    obtain ⟨t', e1, e2⟩ := hh.choose_spec
    cases e1
    have := I.tuple_inj e2 h1
    exact mapi_inj this
  have hmap : ∀ {xs : List V} {ps : List (List Int)}, Paired (fun x ns => ns ≠ [] ∧ Rp (Zs A s σ) X.K H x (.tuple (ns.map .int))) xs ps → xs.map kf = ps := by
    intro xs ps pr
    induction pr with
    | nil => rfl
    | cons h r ih => rw [List.map_cons, ih, (kfe _ _ h.2).1]
  have hrp : ∀ x ∈ xs, Rp (Zs A s σ) X.K H x (tupD (kf x)) := fun x hx => by
    obtain ⟨ns, _, hne, h⟩ := paired_mem pr hx
    rw [(kfe x ns h).1]
    exact h
  refine cr_sortedTI pins s0 σ0 H [.ref a] us Q I rv ⟨a, xs, kf, rfl, hs, fun x hx => ?_, fun ys p h1 h2 hp => ?_⟩
  · obtain ⟨ns, _, hne, h⟩ := paired_mem pr hx
    obtain ⟨e1, t, e2, e3⟩ := kfe x ns h
    rw [e1]
    exact ⟨hne, t, e2, e3⟩
  · have u : ys.map kf = sortL ps := by
      refine srt_uniq (SrtO.srtd_map h1) ?_
      rw [← hmap pr]
      exact h2.perm.map kf
    have ry : RpAll (Zs A s σ) X.K H ys ((sortL ps).map tupD) := by
      rw [← u]
      have hy : ∀ y ∈ ys, Rp (Zs A s σ) X.K H y (tupD (kf y)) := fun y hy => hrp y (h2.perm.mem_iff.mp hy)
      clear u h1 h2
      induction ys with
      | nil => exact .nil
      | cons y ys ih => exact .cons (hy y List.mem_cons_self) (ih fun z hz => hy z (List.mem_cons_of_mem _ hz))
    obtain ⟨g, r⟩ := new_lst hx R (hn p hp) hp ry
    exact k _ _ g r
theorem blt_sound (hc : X.calm = true) (hx : XnOk Xn) (R : Rel X.K Xn A H0 s σ H) (hn : ∀ p, H p = none → Hs p = none) {b : Blt} {ds : List D} {xs : List V} {v : Vl} (e : bltD b ds = some v) (rs : Paired (Rt (Zs A s σ) X.K H) xs ds)
    (k : ∀ z H', Go X.K Xn A H0 s σ H s σ H' → VR X.K Xn A H0 s σ Hs H' v z → Q z H') : wpC X (bltV b) xs H Q := by
  unfold bltD at e
  split at e
  · cases e
    obtain ⟨a, rfl, r⟩ := pr1 rs
    obtain rfl := r.int_inv
    exact of_cr call_abs ⟨_, rfl, fin_dt R (.int _) k⟩
  · cases e
    obtain ⟨a, rfl, r⟩ := pr1 rs
    obtain ⟨a, xs, rfl, h1, r1⟩ := r.lst_inv
    exact of_cr call_len_seq ⟨a, xs, rfl, .inl (SqL.of h1), by rw [r1.length]; exact fin_dt R (.int _) k⟩
  · cases e
    obtain ⟨a, rfl, r⟩ := pr1 rs
    obtain ⟨a, xs, rfl, h1, r1⟩ := Rt.frz_inv r
    exact of_cr call_len_seq ⟨a, xs, rfl, .inl h1, by rw [r1.length]; exact fin_dt R (.int _) k⟩
  · cases e
    obtain ⟨a, rfl, r⟩ := pr1 rs
    obtain ⟨_, a, xs, rfl, h1, r1⟩ := r.tup_inv
    exact of_cr call_len_seq ⟨a, xs, rfl, .inr h1, by rw [r1.length]; exact fin_dt R (.int _) k⟩
  · split at e
    · rename_i hz
      cases e
      obtain ⟨a, rfl, r⟩ := pr1 rs
      obtain rfl := r.str_inv
      exact of_cr call_len_str ⟨_, rfl, of_decide_eq_true hz, fin_dt R (.int _) k⟩
    · cases e
  · cases e
    obtain ⟨a, rfl, r⟩ := pr1 rs
    obtain rfl := r.int_inv
    exact of_cr call_int1 (.inl ⟨_, rfl, fin_dt R (.int _) k⟩)
  · cases e
    obtain ⟨a, rfl, r⟩ := pr1 rs
    obtain rfl := r.bl_inv
    exact of_cr call_int1 (.inr ⟨_, rfl, fin_dt R (.int _) k⟩)
  · obtain ⟨ns, e1, rfl⟩ := Option.map_eq_some_iff.mp e
    obtain ⟨a, rfl, r⟩ := pr1 rs
    obtain ⟨a, xs, rfl, h1, r1⟩ := r.lst_inv
    obtain rfl := r1.ints e1
    exact of_cr (cr_sum hc) ⟨a, ns, rfl, SqL.of h1, fin_dt R (.int _) k⟩
  · obtain ⟨ns, e1, rfl⟩ := Option.map_eq_some_iff.mp e
    obtain ⟨a, rfl, r⟩ := pr1 rs
    obtain ⟨a, xs, rfl, h1, r1⟩ := r.lst_inv
    obtain rfl := r1.bls e1
    exact of_cr (cr_all hc) ⟨a, ns, rfl, SqL.of h1, fin_dt R (.bl _) k⟩
  · obtain ⟨ns, e1, rfl⟩ := Option.map_eq_some_iff.mp e
    obtain ⟨a, rfl, r⟩ := pr1 rs
    obtain ⟨a, xs, rfl, h1, r1⟩ := r.lst_inv
    obtain rfl := r1.bls e1
    exact of_cr (cr_any hc) ⟨a, ns, rfl, SqL.of h1, fin_dt R (.bl _) k⟩
  · cases e
    obtain ⟨a, rfl, r⟩ := pr1 rs
    obtain ⟨a, xs, rfl, h1, r1⟩ := r.lst_inv
    refine of_cr call_tuple_of ⟨a, xs, rfl, .inl ⟨SqL.of h1, fun p hp => ?_⟩⟩
    obtain ⟨g, r⟩ := new_tup hx R hp r1
    exact k _ _ g r
  · cases e
    obtain ⟨a, rfl, r⟩ := pr1 rs
    obtain ⟨w, a, xs, rfl, h1, r1⟩ := r.tup_inv
    exact of_cr call_tuple_of ⟨a, xs, rfl, .inr ⟨h1, fin_dt R w k⟩⟩
  · cases e
    obtain ⟨a, rfl, r⟩ := pr1 rs
    obtain ⟨a, xs, rfl, h1, r1⟩ := r.lst_inv
    refine of_cr call_list_of ⟨a, xs, rfl, .inl (SqL.of h1), fun p hp => ?_⟩
    obtain ⟨g, r⟩ := new_lst hx R (hn p hp) hp r1
    exact k _ _ g r
  · cases e
    obtain ⟨a, rfl, r⟩ := pr1 rs
    obtain ⟨_, a, xs, rfl, h1, r1⟩ := r.tup_inv
    refine of_cr call_list_of ⟨a, xs, rfl, .inr h1, fun p hp => ?_⟩
    obtain ⟨g, r⟩ := new_lst hx R (hn p hp) hp r1
    exact k _ _ g r
  · cases e
    obtain ⟨a, b, rfl, r, r'⟩ := pr2 rs
    obtain rfl := r.int_inv
    obtain rfl := r'.int_inv
    exact of_cr (call_min2 hc) ⟨_, _, rfl, fin_dt R (.int _) k⟩
  · cases e
    obtain ⟨a, b, rfl, r, r'⟩ := pr2 rs
    obtain rfl := r.int_inv
    obtain rfl := r'.int_inv
    exact of_cr (call_max2 hc) ⟨_, _, rfl, fin_dt R (.int _) k⟩
  · obtain ⟨ps, e1, rfl⟩ := Option.map_eq_some_iff.mp e
    obtain ⟨a, rfl, r⟩ := pr1 rs
    obtain ⟨a, xs, rfl, h1, r1⟩ := r.lst_inv
    exact sorted_sound hx R hn (.inl (SqL.of h1)) r1 e1 k
  · obtain ⟨ps, e1, rfl⟩ := Option.map_eq_some_iff.mp e
    obtain ⟨a, rfl, r⟩ := pr1 rs
    obtain ⟨_, a, xs, rfl, h1, r1⟩ := r.tup_inv
    exact sorted_sound hx R hn (.inr h1) r1 e1 k
  · obtain ⟨ns, e1, rfl⟩ := Option.map_eq_some_iff.mp e
    obtain ⟨a, rfl, r⟩ := pr1 rs
    obtain ⟨_, a, xs, rfl, h1, r1⟩ := r.tup_inv
    obtain rfl := r1.ints e1
    exact of_cr (cr_anyT hc) ⟨a, ns, rfl, h1, fin_dt R (.bl _) k⟩
  · obtain ⟨ns, e1, e2⟩ := Option.bind_eq_some_iff.mp e
    obtain ⟨a, rfl, r⟩ := pr1 rs
    obtain ⟨a, xs, rfl, h1, r1⟩ := r.lst_inv
    obtain rfl := r1.ints e1
    cases ns with
    | nil => cases e2
    | cons n ns =>
      cases e2
      obtain ⟨q1, q2⟩ := fold_max ns n
      refine of_cr (cr_max hc) ⟨a, n :: ns, rfl, SqL.of h1, by simp, fun m hm hy => ?_⟩
      have : m = ns.foldl max n := Int.le_antisymm (q2 m hm) (hy _ q1)
      subst this
      exact fin_dt R (.int _) k
  · obtain ⟨ns, e1, e2⟩ := Option.bind_eq_some_iff.mp e
    obtain ⟨a, rfl, r⟩ := pr1 rs
    obtain ⟨a, xs, rfl, h1, r1⟩ := r.lst_inv
    obtain rfl := r1.ints e1
    cases ns with
    | nil => cases e2
    | cons n ns =>
      cases e2
      obtain ⟨q1, q2⟩ := fold_min ns n
      refine of_cr (cr_min hc) ⟨a, n :: ns, rfl, SqL.of h1, by simp, fun m hm hy => ?_⟩
      have : m = ns.foldl min n := Int.le_antisymm (hy _ q1) (q2 m hm)
      subst this
      exact fin_dt R (.int _) k
  · split at e
    · rename_i hz
      cases e
      obtain ⟨a, rfl, r⟩ := pr1 rs
      obtain rfl := r.int_inv
      exact of_cr call_str_int ⟨_, rfl, of_decide_eq_true hz, fin_dt R (.str _) k⟩
    · cases e
  · split at e
    · rename_i hz
      obtain ⟨n, e1, rfl⟩ := Option.map_eq_some_iff.mp e
      obtain ⟨a, rfl, r⟩ := pr1 rs
      obtain rfl := r.str_inv
      exact of_cr call_int_str ⟨_, _, rfl, e1, of_decide_eq_true hz, fin_dt R (.int _) k⟩
    · cases e
  · cases e
/-! ### a text's methods -/
def tmS : Tm → Str
  | .split => "split" | .join => "join" | .partition => "partition" | .find => "find" | .zfill => "zfill"
theorem RpAll.strs {A : Addr → Prop} {K : PySem.W.Frag} {H : Hp} : ∀ {vs : List V} {ds : List D} {ns : List Str}, RpAll A K H vs ds → strsOf ds = some ns → vs = ns.map V.str
  | _, _, _, .nil, e => by cases e; rfl
  | _, d :: ds, ns, .cons h r, e => by
    cases d with
    | str i =>
      cases q : strsOf ds with
      | none => simp [strsOf, q] at e
      | some ms =>
        simp [strsOf, q] at e
        subst e
        rw [h.str_inv, RpAll.strs r q]
        rfl
    | _ => simp [strsOf] at e
theorem RpAll.ofStrs {A : Addr → Prop} {K : PySem.W.Frag} {H : Hp} : ∀ ys : List Str, RpAll A K H (ys.map V.str) (ys.map .str)
  | [] => .nil
  | y :: ys => .cons (.str y) (RpAll.ofStrs ys)
/-- what the methods ask of the text and the argument -/
def rTx (K : PySem.W.Frag) : Tm → V → List V → Hp → VK → Prop
  | .split => fun x xs H Q => ∃ a b, x = .str a ∧ xs = [.str b] ∧ (b.length == 0) = false ∧ a.length + 2 ≤ sizeLine ∧ rNewStrs (Txt.split a b) H Q
  | .partition => fun x xs H Q => ∃ a b, x = .str a ∧ xs = [.str b] ∧ (b.length == 0) = false ∧ a.length ≤ sizeLine ∧ ∀ p, H p = none → Q (.ref p) (upd H p (.tup [.str (Txt.partition a b).1, .str (Txt.partition a b).2.1, .str (Txt.partition a b).2.2]))
  | .find => fun x xs H Q => ∃ a b, x = .str a ∧ xs = [.str b] ∧ Q (.int (Txt.find a b)) H
  | .zfill => fun x xs H Q => ∃ (a : Str) (i : Int), x = .str a ∧ xs = [.int i] ∧ PadOk i = true ∧ Q (.str (Txt.zfill a i)) H
  | .join => fun x xs H Q => ∃ a p, ∃ ys : List Str, x = .str a ∧ xs = [.ref p] ∧ (SqL K H p (ys.map V.str) ∨ SqT K H p (ys.map V.str)) ∧ (ys.map (·.length)).sum + ys.length * a.length ≤ 16777216 ∧ Q (.str (Txt.join a ys)) H
theorem tx_sound (hx : XnOk Xn) (R : Rel X.K Xn A H0 s σ H) (hn : ∀ p, H p = none → Hs p = none) {m : Tm} {z : Str} {d : D} {y : V} {v : Vl} (e : txD m z d = some v) (r : Rt (Zs A s σ) X.K H y d)
    (k : ∀ z H', Go X.K Xn A H0 s σ H s σ H' → VR X.K Xn A H0 s σ Hs H' v z → Q z H') : rTx X.K m (.str z) [y] H Q := by
  unfold txD at e
  split at e
  · split at e
    · rename_i hz
      cases e
      simp only [Bool.and_eq_true, Bool.not_eq_true', decide_eq_true_eq] at hz
      obtain rfl := r.str_inv
      refine ⟨_, _, rfl, rfl, hz.1, hz.2, fun p hp => ?_⟩
      obtain ⟨g, r⟩ := new_lst hx R (hn p hp) hp (RpAll.ofStrs _)
      exact k _ _ g r
    · cases e
  · split at e
    · rename_i hz
      cases e
      simp only [Bool.and_eq_true, Bool.not_eq_true', decide_eq_true_eq] at hz
      obtain rfl := r.str_inv
      refine ⟨_, _, rfl, rfl, hz.1, hz.2, fun p hp => ?_⟩
      obtain ⟨g, r⟩ := new_tup hx R hp (.cons (.str _) (.cons (.str _) (.cons (.str _) .nil)))
      exact k _ _ g r
    · cases e
  · cases e
    obtain rfl := r.str_inv
    exact ⟨_, _, rfl, rfl, fin_dt R (.int _) k⟩
  · split at e
    · rename_i hz
      cases e
      obtain rfl := r.int_inv
      exact ⟨_, _, rfl, rfl, hz, fin_dt R (.str _) k⟩
    · cases e
  · split at e
    · rename_i ys q
      split at e
      · rename_i hz
        cases e
        obtain ⟨a, xs, rfl, h1, r1⟩ := r.lst_inv
        obtain rfl := r1.strs q
        exact ⟨_, a, ys, rfl, rfl, .inl (SqL.of h1), of_decide_eq_true hz, fin_dt R (.str _) k⟩
      · cases e
    · cases e
  · split at e
    · rename_i ys q
      split at e
      · rename_i hz
        cases e
        obtain ⟨_, a, xs, rfl, h1, r1⟩ := r.tup_inv
        obtain rfl := r1.strs q
        exact ⟨_, a, ys, rfl, rfl, .inr h1, of_decide_eq_true hz, fin_dt R (.str _) k⟩
      · cases e
    · cases e
  · cases e

/-! ### methods of an own list -/
def mthI : Mth → String
  | .append => "list.append" | .extend => "list.extend" | .pop => "list.pop" | .popAt => "list.pop" | .insert => "list.insert" | .count => "list.count"
def mthS : Mth → Str
  | .append => "append" | .extend => "extend" | .pop => "pop" | .popAt => "pop" | .insert => "insert" | .count => "count"
def wpM (X : Cx) (id : String) : V → List V → Hp → VK → Prop := fun x xs H Q => ∀ (pins : List (Addr × Obj)) (s : Shared) (σ : L2.St) (v : Value) (us : List Value), Inv X pins σ H s → RelV x v → Vals xs us → wpAny (model X.prog X.w) X.A (call (.builtin id) (v :: us)) (EP X pins σ Q) X.xe s
theorem mr_w {id : String} : MtR X id (wpM X id) := fun pins s σ H x xs v us Q I rx r h => h pins s σ v us I rx r
theorem of_mr {id : String} {r : V → List V → Hp → VK → Prop} (h : MtR X id r) {xs : List V} (q : r x xs H Q) : wpM X id x xs H Q := fun pins s σ v us I rx rv => h pins s σ H x xs v us Q I rx rv q
theorem mth_sound (hx : XnOk Xn) (R : Rel X.K Xn A H0 s σ H) {m : Mth} {i : Nat} {p : Bool} {ds ws ys : List D} {xs : List V} {v : D} (hi : s[i]? = some (Slot.own p (.list ds))) (hs : σ[i]? = some (some x)) (e : mthD m ds ws = some (v, ys)) (rs : RpAll (Zs A s σ) X.K H xs ws)
    (k : ∀ z H', Go X.K Xn A H0 s σ H (s.set i (.own p (.list ys))) σ H' → VR X.K Xn A H0 (s.set i (.own p (.list ys))) σ Hs H' (.dt v) z → Q z H') : wpM X (mthI m) x xs H Q := by
  obtain ⟨a, e1, ⟨ds', vs, e2, h2, r2⟩, _⟩ := R.own i p _ hi
  rw [hs] at e1
  cases e1
  cases e2
  have fin : ∀ (v' : V) (vs' : List V), RpAll (Zs A s σ) X.K H vs' ys → Rp (Zs A s σ) X.K H v' v → Q v' (upd H a (.lst vs')) := fun v' vs' r r' => by
    have g := R.write hx hi hs r
    exact k _ _ g (g.rp r')
  unfold mthD at e
  split at e
  · split at e
    · rename_i hz
      cases e
      cases rs with
      | cons r rs =>
        cases rs
        exact of_mr mt_append ⟨a, vs, _, rfl, rfl, h2, by rw [r2.length]; exact of_decide_eq_true hz, fin _ _ (r2.append (.cons r .nil)) .non⟩
    · cases e
  · split at e
    · rename_i hz
      cases e
      cases rs with
      | cons r rs =>
        cases rs
        cases r with
        | lst h3 _ r3 => exact of_mr mt_extend ⟨a, _, vs, _, rfl, rfl, h2, h3, by rw [r2.length, r3.length]; exact of_decide_eq_true hz, fin _ _ (r2.append r3) .non⟩
    · cases e
  · obtain ⟨w, e1, e2⟩ := Option.map_eq_some_iff.mp e
    cases e2
    cases rs
    obtain ⟨y, e3, r3⟩ := r2.get e1
    exact of_mr mt_pop ⟨a, vs, y, rfl, rfl, h2, by rw [r2.length]; exact e3, fin _ _ r2.dropLast r3⟩
  · split at e
    · rename_i hz
      simp only [Bool.and_eq_true, decide_eq_true_eq] at hz
      split at e
      · rename_i kk hk
        obtain ⟨w, e1, e2⟩ := Option.map_eq_some_iff.mp e
        cases e2
        cases rs with
        | cons r rs =>
          cases rs
          obtain rfl := r.int_inv
          obtain ⟨y, e3, r3⟩ := r2.get e1
          exact of_mr mt_popAt ⟨a, vs, _, kk, y, rfl, rfl, h2, by omega, by omega, by rw [r2.length]; exact (ixN_seq hk).1, e3, fin _ _ (r2.erase _) r3⟩
      · cases e
    · cases e
  · obtain ⟨ns, e1, e2⟩ := Option.map_eq_some_iff.mp e
    cases e2
    cases rs with
    | cons r rs =>
      cases rs
      obtain rfl := r.int_inv
      obtain rfl := r2.ints e1
      refine of_mr mt_lcount ⟨a, ns, _, rfl, rfl, SqL.of h2, ?_⟩
      have es : s.set i (.own p (.list ds)) = s := by
        obtain ⟨hlt, hh⟩ := List.getElem?_eq_some_iff.mp hi
        rw [← hh]
        exact List.set_getElem_self hlt
      rename_i k0
      have kk := k (.int (ns.count k0 : Nat)) H
      rw [es] at kk
      exact kk (Go.refl R) (.int _)
  · split at e
    · rename_i hz
      cases e
      simp only [Bool.and_eq_true, decide_eq_true_eq] at hz
      cases rs with
      | cons r rs =>
        cases rs with
        | cons r' rs =>
          cases rs
          obtain rfl := r.int_inv
          refine of_mr mt_insert ⟨a, vs, _, _, rfl, rfl, h2, by rw [r2.length]; exact hz.2, hz.1.1, by omega, ?_⟩
          exact fin _ _ (((r2.take _).append (.cons r' .nil)).append (r2.drop _)) .non
    · cases e
  · cases e
end
end Mi

/-! Mi4: does the small tree tell the text's tree? -/
namespace Mi
open PySem PySem.Spec PyProof.Rows L2

structure FnI where
  name : Str
  ps : List Str
  dvs : List D
structure Tx where
  fns : List FnI
  cls : List Str
  glb : List Str
structure Cxt where
  N : List Str
  nm : List (Str × NameKind)
  hot : Bool
  fnT : Bool
  fnL : List Str
  n : Nat
def Cxt.vis (c : Cxt) (x : Str) : Bool := (match c.nm.lookup x with | some .local => true | some .cell => true | some .free => true | _ => false) && !(x == ("__debug__" : Str)) && !(x == ("__classdict__" : Str))
def Cxt.gl (c : Cxt) (x : Str) : Bool := (match c.nm.lookup x with | some .globalImplicit => true | _ => false) && !(x == ("__debug__" : Str)) && !(x == ("__name__" : Str))
def Cxt.loc (c : Cxt) (x : Str) : Bool := (match c.nm.lookup x with | some .local => true | some .cell => c.fnT || c.fnL.contains x | _ => false)
def relNm (nm own : List (Str × NameKind)) : List (Str × NameKind) := nm.map fun (n, k) => if (k == NameKind.free && own.lookup n == some NameKind.cell) then (n, NameKind.cell) else (n, k)
def Cxt.blk (c : Cxt) (sc : Scope) : Cxt := { c with nm := relNm sc.names c.nm, hot := false, fnT := false, fnL := (sc.names.filter fun y => y.2 == NameKind.cell).map (·.1) }
/-- a scope's names but for the block's own rule: as blkC, over the names alone -/
def ownOf (N : List Str) : List Nat → List (Str × Nat)
  | [] => []
  | j :: vs => (N.getD j ("" : Str), j) :: ownOf N vs
def blkB (c : Cxt) (sc : Scope) (vs : List Nat) : Bool :=
  (match sc.kind with | .function => true | _ => false) && (sc.names.all fun y => decide (sc.names.lookup y.1 = some y.2)) && ((ownOf c.N vs).all fun p => decide (c.N[p.2]? = some p.1)) &&
    (sc.names.all fun y => match y.2 with
      | .free => (match c.nm.lookup y.1 with | some .cell => true | some .free => true | _ => false)
      | .local => decide (y.1 ∈ (ownOf c.N vs).map (·.1)) || decide (y.1 ∉ c.N)
      | .cell => decide (y.1 ∈ (ownOf c.N vs).map (·.1)) || decide (y.1 ∉ c.N)
      | _ => true)
def dOfC : Const → Option D
  | .int i => some (.int i)
  | .bool b => some (.bool b)
  | .none => some .none
  | .str x => some (.str x)
  | _ => none
def isC : E → Const → Bool
  | .int i, .int j => decide (i = j)
  | .bl b, .bool d => b == d
  | .non, .none => true
  | .str x, .str y => decide (x = y)
  | _, _ => false
def tyS : Ty → Str
  | .int => "int" | .bool => "bool" | .tuple => "tuple" | .list => "list" | .str => "str"
/-- constants that defaults are -/
def sameD : D → D → Bool
  | .int i, .int j => decide (i = j)
  | .bool i, .bool j => i == j
  | .none, .none => true
  | _, _ => false
def sameDs : List D → List D → Bool
  | [], [] => true
  | a :: as, b :: bs => sameD a b && sameDs as bs
  | _, _ => false
def noStar : Expr → Bool
  | .Starred .. => false
  | _ => true
def noSlice : Expr → Bool
  | .Slice .. => false
  | _ => true
/-- may be asked as a test by its value's truth -/
def plainT : Expr → Bool
  | .UnaryOp .Not _ _ => false
  | .BoolOp .. => false
  | .IfExp .. => false
  | .Compare .. => false
  | _ => true
/-- what stands before a method's name is not super() -/
def plainB : Expr → Bool
  | .Call _ [] _ _ => false
  | _ => true
/-- a part of a slice that is written as a number, or not written -/
def litO : Option Int → Option Expr → Bool
  | none, none => true
  | some i, some (.Constant (.int j) _ _) => decide (i = j)
  | _, _ => false
mutual
def chkG (c : Cxt) : Tg → Expr → Bool
  | .nm i, .Name x _ => decide (c.N[i]? = some x) && c.loc x
  | .tp ts, .Tuple es _ _ => !c.hot && chkGs c ts es
  | _, _ => false
def chkGs (c : Cxt) : Tgs → List Expr → Bool
  | .nil, [] => true
  | .cons t ts, e :: es => noStar e && chkG c t e && chkGs c ts es
  | _, _ => false
end
def tgIn (vs : List Nat) : Tg → Bool
  | .nm i => vs.contains i
  | .tp ts => tgsIn ts
where tgsIn : Tgs → Bool
  | .nil => true
  | .cons t ts => tgIn vs t && tgsIn ts
def isTup : Expr → Bool
  | .Tuple .. => true
  | _ => false
mutual
def chkE (T : Tx) (c : Cxt) : E → Expr → Bool
  | .int i, .Constant k _ _ => isC (.int i) k
  | .bl b, .Constant k _ _ => isC (.bl b) k
  | .non, .Constant k _ _ => isC .non k
  | .str x, .Constant k _ _ => isC (.str x) k
  | .var i, .Name x _ => decide (c.N[i]? = some x) && c.vis x
  | .glb k, .Name x _ => decide (T.glb[k]? = some x) && c.gl x
  | .bin op a b, .BinOp l o r _ => decide (opB op = o) && chkE T c a l && chkE T c b r
  | .neg a, .UnaryOp o x _ => decide (o = .USub) && chkE T c a x
  | .not a, .UnaryOp o x _ => decide (o = .Not) && chkE T c a x
  | .cmp op a b, .Compare l [o] [r] _ => decide (opC op = o) && chkE T c a l && chkE T c b r && !behindInMarks o r
  | .and es, .BoolOp o xs _ => decide (o = .And) && chkEs T c es xs && !xs.isEmpty
  | .or es, .BoolOp o xs _ => decide (o = .Or) && chkEs T c es xs && !xs.isEmpty
  | .tup es, .Tuple xs _ _ => chkEs T c es xs
  | .lst es, .List xs _ => chkEs T c es xs
  | .ix a b, .Subscript l r _ => chkE T c a l && chkE T c b r && noSlice r
  | .slc a lo hi, .Subscript l (.Slice l' h' none _) _ => chkE T c a l && chkEo T c lo l' && chkEo T c hi h'
  | .rev a lo hi, .Subscript l (.Slice l' h' (some (.UnaryOp .USub (.Constant (.int 1) _ _) _)) _) _ => chkE T c a l && litO lo l' && litO hi h'
  | .call f es dv, .Call (.Name x _) as [] _ => !c.hot && c.gl x && chkEs T c es as && decide (f < c.n) && (match T.fns[f]? with
    | some i => decide (i.name = x) && decide (as.length + dv.length = i.ps.length) && decide (dv.length ≤ i.dvs.length) && (dv.isEmpty || !as.isEmpty) && sameDs dv (i.dvs.drop (i.dvs.length - dv.length)) && decide (as ≠ [] )
    | none => false)
  | .blt b es, .Call (.Name x _) as [] _ => !c.hot && decide (bltS b = x) && c.gl x && chkEs T c es as && !as.isEmpty
  | .lc elt tg it cond vs, .ListComp elt' [⟨tg', it', ifs, k⟩] sc _ => !c.hot && decide (k = 0) && blkB c sc vs && tgIn vs tg && chkG (c.blk sc) tg tg' && noStar tg' && chkI T c tg' it it' && chkC T (c.blk sc) cond ifs && chkE T (c.blk sc) elt elt'
  | .mth m i es, .Call (.Attribute (.Name x _) a ap) as [] p => decide (mthS m = a) && decide (c.N[i]? = some x) && c.vis x && chkEs T c es as && (as.isEmpty == (match m with | .pop => true | _ => false)) && (ap.endLine == p.line) && decide (as.length < 30)
  | .tx m a b, .Call (.Attribute o nm ap) [x] [] p => decide (tmS m = nm) && chkE T c a o && plainB o && chkE T c b x && (ap.endLine == p.line)
  | .isT e t, .Call (.Name f _) [x, .Name ty _] [] _ => !c.hot && decide (f = ("isinstance" : Str)) && c.gl f && chkE T c e x && decide (ty = tyS t) && c.gl ty
  | .isE i cs, .Call (.Name f _) [.Name n _, .Name x _] [] _ => c.hot && decide (f = ("isinstance" : Str)) && c.gl f && decide (c.N[i]? = some n) && c.vis n && (match cs with | [k] => decide (T.cls[k]? = some x) | _ => false) && c.gl x
  | _, _ => false
def chkEs (T : Tx) (c : Cxt) : Es → List Expr → Bool
  | .nil, [] => true
  | .cons e es, x :: xs => chkE T c e x && chkEs T c es xs
  | _, _ => false
def chkEo (T : Tx) (c : Cxt) : Eo → Option Expr → Bool
  | .no, none => true
  | .so e, some x => chkE T c e x
  | _, _ => false
def chkC (T : Tx) (c : Cxt) : Eo → List Expr → Bool
  | .no, [] => true
  | .so e, [x] => chkE T c e x
  | _, _ => false
def chkI (T : Tx) (c : Cxt) (tg : Expr) : It → Expr → Bool
  | .e e, x => chkE T c e x
  | .rng1 a, .Call (.Name f _) [x] [] _ => decide (f = ("range" : Str)) && c.gl f && chkE T c a x
  | .rng2 a b, .Call (.Name f _) [x, y] [] _ => decide (f = ("range" : Str)) && c.gl f && chkE T c a x && chkE T c b y
  | .enm a, .Call (.Name f _) [x] [] _ => isTup tg && decide (f = ("enumerate" : Str)) && c.gl f && chkE T c a x
  | .zip a b, .Call (.Name f _) [x, y] [] _ => isTup tg && decide (f = ("zip" : Str)) && c.gl f && chkE T c a x && chkE T c b y
  | _, _ => false
end
end Mi

/-! Mi5: the contract of a def; what a context must bring; expressions are sound. -/
namespace Mi
open PySem PySem.Spec PyProof.Rows L2

/-! ### contracts -/
def argsOk (K : PySem.W.Frag) (A : Addr → Prop) (H : Hp) : List Bool → List V → List D → Prop
  | _, [], [] => True
  | true :: m, v :: vs, d :: ds => (∃ a, v = .ref a ∧ A a ∧ OwnOk A K H a d) ∧ argsOk K A H m vs ds
  | false :: m, v :: vs, d :: ds => Rp A K H v d ∧ argsOk K A H m vs ds
  | [], v :: vs, d :: ds => Rp A K H v d ∧ argsOk K A H [] vs ds
  | _, _, _ => False
def mskV : List Bool → List V → List V
  | true :: m, v :: vs => v :: mskV m vs
  | false :: m, _ :: vs => mskV m vs
  | _, _ => []
def outsOk (K : PySem.W.Frag) (A : Addr → Prop) (H : Hp) : List V → List D → Prop
  | [], [] => True
  | v :: vs, d :: ds => (∃ a, v = .ref a ∧ OwnOk A K H a d) ∧ outsOk K A H vs ds
  | _, _ => False
def callFr (ms : List V) (H H' : Hp) : Prop := (∀ b o, H b = some o → V.ref b ∉ ms → H' b = some o) ∧ ∀ a, H a ≠ none → H' a ≠ none
def retOk (K : PySem.W.Frag) (A : Addr → Prop) (H H' : Hp) (nw : Bool) (d : D) (x : V) (ms : List V) (outs : List D) : Prop :=
  match nw with
  | true => ∃ p, x = .ref p ∧ H p = none ∧ ¬ A p ∧ OwnOk (Apt A p) K H' p d ∧ outsOk K (Apt A p) H' ms outs
  | false => Rp A K H' x d ∧ outsOk K A H' ms outs
def spPost (K : PySem.W.Frag) (Xr : XrT) (A : Addr → Prop) (mask : List Bool) (vs : List V) (H : Hp) (Q : VK) (E : XK) : Option Ret → Prop
  | some (.ok nw d outs) => ∀ x H', callFr (mskV mask vs) H H' → retOk K A H H' nw d x (mskV mask vs) outs → Q x H'
  | some (.ex c args outs) => ∀ cls dx H', callFr (mskV mask vs) H H' → outsOk K A H' (mskV mask vs) outs → Xr A c args cls dx H' → E cls dx H'
  | none => False
def spOf (K : PySem.W.Frag) (Xr : XrT) (np : Nat) (mask : List Bool) (φ : List D → Option Ret) : Sp := fun vs H Q E =>
  vs.length = np ∧ ∃ (A : Addr → Prop) (ds : List D), (∀ a, A a → H a ≠ none) ∧ (mskV mask vs).Nodup ∧ argsOk K A H mask vs ds ∧ spPost K Xr A mask vs H Q E (φ ds)

/-! ### contexts -/
structure Okx (X : Cx) (c : Cxt) : Prop where
  N : X.N = c.N
  nd : X.N.Nodup
  nm : X.env.scope.names = c.nm
  kd : X.env.scope.kind = .function
  fn : ∀ x, (c.fnT || c.fnL.contains x) = true → X.fn x = true
  calm : c.hot = false → X.calm = true
  hu : X.A.units + 65 < cLine
def blts : List Str := ["abs", "len", "int", "sum", "all", "any", "tuple", "list", "min", "max", "sorted", "str", "dict", "range", "enumerate", "zip", "isinstance", "bool", "set"]
/-- a default's value -/
def dV : D → V
  | .int i => .int i
  | .bool b => .bl b
  | _ => .non
def NmC (mg : Str → Option Value) (x : Str) (cv : Value) : Prop := (mg x = some cv ∧ ∃ C, cv = .ref C) ∨ (mg x = none ∧ x = ("ValueError" : Str) ∧ cv = .type "ValueError")
structure Clss (K : PySem.W.Frag) (mg : Str → Option Value) (T : Tx) (under : Nat → Nat → Bool) : Prop where
  own : ∀ (k : Nat) (x : Str), T.cls[k]? = some x → x ≠ ("ValueError" : Str) → ∃ D, mg x = some (.ref D) ∧ PySem.W.keepIn K (.ref D) = true ∧ PySem.W.excIn K D He.veBase "ValueError.__new__" = true ∧
    PySem.W.subIn K (.ref D) (.type "BaseException") = some true ∧ PySem.W.typeIn K (.ref D) = some (.type "type") ∧ ExcC K D
  val : ∀ (k : Nat) (x : Str), T.cls[k]? = some x → ∃ cv : Value, NmC mg x cv ∧ ∀ (cc : Nat) (y : Str) (D : Addr), T.cls[cc]? = some y → mg y = some (.ref D) →
    PySem.W.exmOne K (.ref D) cv = some (under k cc) ∧ PySem.W.kitOne K (.ref D) cv = some (under k cc) ∧ ExcC K D
structure OkE (X : Cx) (T : Tx) (hot : Bool) (Φ : Env) (Xn : XnT) (Xr : XrT) : Prop where
  cl : Clss X.K X.mg T Φ.under
  xi : ∀ (A : Addr → Prop) (H : Hp) (cc : Nat) (x : Str) (D : Addr), T.cls[cc]? = some x → X.mg x = some (.ref D) → Xr A cc [] (.ref D) none H
  xo : ∀ (A : Addr → Prop) (cc : Nat) (args : List D) (cls : Value) (dx : Option Addr) (H : Hp), Xr A cc args cls dx H → args = [] ∧ dx = none ∧ ∃ (x : Str) (D : Addr), T.cls[cc]? = some x ∧ X.mg x = some (.ref D) ∧ cls = .ref D
  x0 : hot = false → ∀ cc args v H, ¬ Xn cc args v H
  x1 : hot = true → ∀ cc args v H, Xn cc args v H → ∃ (X' : Cx) (a : Addr) (oe : Obj) (pn : List (Addr × Obj)) (x : Str) (D : Addr), X = X'.suite a ((a, oe) :: pn) ∧ v = .ref a ∧ Zc (.ref D) none oe ∧ (∃ vs, oe.data = .fields vs) ∧ T.cls[cc]? = some x ∧ X.mg x = some (.ref D)
structure Okt (X : Cx) (T : Tx) (c : Cxt) (Φ : Env) (Xn : XnT) (Xr : XrT) : Prop where
  xn : XnOk Xn
  blt : ∀ x ∈ blts, X.mg x = none
  glb : ∀ (k : Nat) (x : Str), T.glb[k]? = some x → ∃ v u, X.mg x = some u ∧ RelV v u ∧ ∀ H, Rp (fun _ => True) X.K H v (Φ.glb k)
  fn : c.hot = false → ∀ (f : Nat) (i : FnI), f < c.n → T.fns[f]? = some i → ∃ (a : Addr) (fd : FuncData) (k : Nat), X.mg i.name = some (.ref a) ∧ PySem.W.keepIn X.K (.ref a) = true ∧ Room k X.A ∧
    FnOk X.prog X.w X.K X.mg X.base (L2.CX X.prog X.w) k a fd i.ps (spOf X.K Xr i.ps.length (Φ.mask f) (Φ.fn f)) ∧ (∀ b ∈ (Φ.mask f).drop (i.ps.length - i.dvs.length), b = false) ∧
    ∀ m, m ≤ i.dvs.length → ∃ ds : List Value, Vals ((i.dvs.drop (i.dvs.length - m)).map dV) ds ∧ Binds X.K fd i.ps ds
  xr : ∀ (A A' : Addr → Prop) n args cls dx H H', Xr A n args cls dx H → (∀ b o, H b = some o → ¬ A b → H' b = some o) → (∀ b, A' b → A b ∨ H b = none) → Xr A' n args cls dx H'
  e : OkE X T c.hot Φ Xn Xr

/-! ### the meaning of a result -/
section
variable (K : PySem.W.Frag) (Xn : XnT) (Xr : XrT) (A : Addr → Prop) (H0 : Hp) (s : Sl) (σ : L2.St) (H : Hp) (W : WX)
def Out (r : R Vl) (Q : VK) : Prop := match r with
  | .ok v s' => ∀ x H', Go K Xn A H0 s σ H s' σ H' → VR K Xn A H0 s' σ H H' v x → Q x H'
  | .ex c args s' => ∀ cls dx H', Go K Xn A H0 s σ H s' σ H' → Xr (Zs A s' σ) c args cls dx H' → W cls dx σ H'
  | .no => False
def OutB (r : R Vl) (Q : Bool → Hp → Prop) : Prop := match r with
  | .ok (.dt (.bool b)) s' => ∀ H', Go K Xn A H0 s σ H s' σ H' → Q b H'
  | .ok _ _ => False
  | .ex c args s' => ∀ cls dx H', Go K Xn A H0 s σ H s' σ H' → Xr (Zs A s' σ) c args cls dx H' → W cls dx σ H'
  | .no => False
def Outs (r : R (List Vl)) (Q : List V → Hp → Prop) : Prop := match r with
  | .ok vs s' => ∀ xs H', Go K Xn A H0 s σ H s' σ H' → VLs K A s' σ H' vs xs → Q xs H'
  | .ex c args s' => ∀ cls dx H', Go K Xn A H0 s σ H s' σ H' → Xr (Zs A s' σ) c args cls dx H' → W cls dx σ H'
  | .no => False
def OutO (r : R (Option Int)) (Q : Option Int → Hp → Prop) : Prop := match r with
  | .ok o s' => ∀ H', Go K Xn A H0 s σ H s' σ H' → Q o H'
  | .ex c args s' => ∀ cls dx H', Go K Xn A H0 s σ H s' σ H' → Xr (Zs A s' σ) c args cls dx H' → W cls dx σ H'
  | .no => False
end
/-- an expression is sound (in the contexts that have c) -/
def SndE (T : Tx) (Φ : Env) (Xn : XnT) (Xr : XrT) (e : E) : Prop := ∀ (X : Cx) (c : Cxt) (pe : Expr), Okx X c → Okt X T c Φ Xn Xr → chkE T c e pe = true → ∀ (W : WX), Takes X W → ∀ (A : Addr → Prop) (H0 : Hp) (s : Sl) (σ : L2.St) (H : Hp),
  Rel X.K Xn A H0 s σ H → (∀ Q : VK, Out X.K Xn Xr A H0 s σ H W (ev Φ e s) Q → wpE X pe σ H Q)
section
variable {K : PySem.W.Frag} {Xn : XnT} {Xr : XrT} {A : Addr → Prop} {H0 : Hp} {s s1 s2 : Sl} {σ : L2.St} {H H1 H2 : Hp} {W : WX} {Q : VK}
theorem Out.cont {r : R Vl} {Q : VK} (g : Go K Xn A H0 s σ H s1 σ H1) (h : Out K Xn Xr A H0 s σ H W r Q) : Out K Xn Xr A H0 s1 σ H1 W r Q := by
  cases r with
  | ok v s' => exact fun x H' g' r => h x H' (g.trans g') (r.from fun p hp => g.none_of hp)
  | ex c args s' => exact fun cls dx H' g' r => h cls dx H' (g.trans g') r
  | no => exact h
theorem Out.ofR {c : Nat} {args : List D} {s' : Sl} {H1 : Hp} (g : Go K Xn A H0 s σ H s1 σ H1) {Q' : VK} (h : Out K Xn Xr A H0 s σ H W (.ex c args s') Q) : Out K Xn Xr A H0 s1 σ H1 W (.ex c args s') Q' := fun cls dx H' g' r => h cls dx H' (g.trans g') r
end
section
variable {T : Tx} {Φ : Env} {Xn : XnT} {Xr : XrT} {X : Cx} {c : Cxt}
theorem Okx.vis (O : Okx X c) {x : Str} (h : c.vis x = true) : Vis X.env.scope x ∧ (x == ("__debug__" : Str)) = false ∧ (x == ("__classdict__" : Str)) = false := by
  unfold Cxt.vis at h
  simp only [Bool.and_eq_true, Bool.not_eq_true'] at h
  refine ⟨?_, h.1.2, h.2⟩
  unfold Vis
  rw [O.nm]
  have h1 := h.1.1
  split at h1
  · rename_i e; exact .inl e
  · rename_i e; exact .inr (.inl e)
  · rename_i e; exact .inr (.inr e)
  · cases h1
theorem Okx.gl (O : Okx X c) {x : Str} (h : c.gl x = true) : Gl X x ∧ (x == ("__debug__" : Str)) = false ∧ x ≠ "__name__" := by
  unfold Cxt.gl at h
  simp only [Bool.and_eq_true, Bool.not_eq_true'] at h
  refine ⟨?_, h.1.2, fun z => by rw [z] at h; simp at h⟩
  show X.env.scope.names.lookup x = _
  rw [O.nm]
  have h1 := h.1.1
  split at h1
  · rename_i e; exact e
  · cases h1
theorem Okx.loc (O : Okx X c) {x : Str} (h : c.loc x = true) : L2.Loc X.env.scope x ∧ (X.fn x = true ∨ X.env.scope.names.lookup x = some .local) := by
  unfold Cxt.loc at h
  unfold L2.Loc
  rw [O.nm]
  split at h
  · rename_i e; exact ⟨.inl e, .inr e⟩
  · rename_i e; exact ⟨.inr e, .inl (O.fn x h)⟩
  · cases h
theorem nostar {e : Expr} {es : List Expr} {env : PySem.Env} (h : noStar e = true) : starEach (e :: es) env = (false, eval e env) :: starEach es env := by
  cases e <;> first | rfl | cases h
theorem chk_noStar {e : E} {pe : Expr} (h : chkE T c e pe = true) : noStar pe = true := by
  cases pe <;> first | rfl | (cases e <;> simp [chkE] at h)
theorem chk_noSlice {e : E} {pe : Expr} (h : chkE T c e pe = true) : noSlice pe = true := by
  cases pe <;> first | rfl | (cases e <;> simp [chkE] at h)
theorem chk_noSet {e : E} {pe : Expr} (h : chkE T c e pe = true) (env : PySem.Env) : ∀ x, foldedSetIterable pe env x = pure x := by
  cases pe <;> first | (intro x; rfl) | (cases e <;> simp [chkE] at h)
theorem chks_plain {pos : Pos} {env : PySem.Env} : ∀ {es : Es} {pes : List Expr}, chkEs T c es pes = true → (backTo pos (starEach pes env)).any (·.1) = false
  | .nil, [], _ => rfl
  | .cons e es, x :: xs, h => by
    simp only [chkEs, Bool.and_eq_true] at h
    rw [nostar (chk_noStar h.1)]
    have ih := chks_plain (pos := pos) (env := env) h.2
    unfold backTo at ih ⊢
    simpa using ih
  | .nil, _ :: _, h => by simp [chkEs] at h
  | .cons _ _, [], h => by simp [chkEs] at h

/-! ### two in a row -/
theorem two {a b : E} {pa pb : Expr} (O : Okx X c) (t : Okt X T c Φ Xn Xr) (ha : SndE T Φ Xn Xr a) (hb : SndE T Φ Xn Xr b) (ca : chkE T c a pa = true) (cb : chkE T c b pb = true) {W : WX} (tk : Takes X W) {A : Addr → Prop} {H0 : Hp} {s : Sl} {σ : L2.St} {H : Hp}
    (R : Rel X.K Xn A H0 s σ H) {f : Vl → Vl → Sl → Mi.R Vl} {Q : VK} {P : V → V → Hp → Prop}
    (h : Out X.K Xn Xr A H0 s σ H W (match ev Φ a s with
      | .ok x s1 => match ev Φ b s1 with
        | .ok y s2 => f x y s2
        | .ex c args s2 => .ex c args s2
        | .no => .no
      | .ex c args s1 => .ex c args s1
      | .no => .no) Q)
    (k : ∀ v w s2 x y H2, Go X.K Xn A H0 s σ H s2 σ H2 → VL X.K A s2 σ H2 v x → VL X.K A s2 σ H2 w y → Out X.K Xn Xr A H0 s σ H W (f v w s2) Q → P x y H2) :
    wpE X pa σ H fun x H1 => wpE X pb σ H1 fun y H2 => P x y H2 := by
  refine ha X c pa O t ca W tk A H0 s σ H R _ ?_
  cases ea : ev Φ a s with
  | no => rw [ea] at h; exact h.elim
  | ex c args s1 => rw [ea] at h; exact fun cls dx H' g r => h cls dx H' g r
  | ok v s1 =>
    rw [ea] at h
    dsimp only at h
    intro x H1 g1 r1
    refine hb X c pb O t cb W tk A H0 s1 σ H1 g1.rel _ ?_
    cases eb : ev Φ b s1 with
    | no => rw [eb] at h; exact h.elim
    | ex c args s2 => rw [eb] at h; exact fun cls dx H' g r => h cls dx H' (g1.trans g) r
    | ok w s2 =>
      rw [eb] at h
      dsimp only at h
      intro y H2 g2 r2
      exact k v w s2 x y H2 (g1.trans g2) (r1.late.go g2) r2.late h
theorem one {a : E} {pa : Expr} (O : Okx X c) (t : Okt X T c Φ Xn Xr) (ha : SndE T Φ Xn Xr a) (ca : chkE T c a pa = true) {W : WX} (tk : Takes X W) {A : Addr → Prop} {H0 : Hp} {s : Sl} {σ : L2.St} {H : Hp}
    (R : Rel X.K Xn A H0 s σ H) {f : Vl → Sl → Mi.R Vl} {Q : VK} {P : V → Hp → Prop}
    (h : Out X.K Xn Xr A H0 s σ H W (match ev Φ a s with
      | .ok x s1 => f x s1
      | .ex c args s1 => .ex c args s1
      | .no => .no) Q)
    (k : ∀ v s1 x H1, Go X.K Xn A H0 s σ H s1 σ H1 → VR X.K Xn A H0 s1 σ H H1 v x → Out X.K Xn Xr A H0 s σ H W (f v s1) Q → P x H1) :
    wpE X pa σ H P := by
  refine ha X c pa O t ca W tk A H0 s σ H R _ ?_
  cases ea : ev Φ a s with
  | no => rw [ea] at h; exact h.elim
  | ex c args s1 => rw [ea] at h; exact fun cls dx H' g r => h cls dx H' g r
  | ok v s1 =>
    rw [ea] at h
    dsimp only at h
    intro x H1 g1 r1
    exact k v s1 x H1 g1 r1 h
/-- what is reckoned from data that may be read -/
theorem fin_of {A : Addr → Prop} {H0 : Hp} {s s2 : Sl} {σ : L2.St} {H H2 : Hp} {W : WX} {Q : VK} {v : Vl} (g : Go X.K Xn A H0 s σ H s2 σ H2) (h : Out X.K Xn Xr A H0 s σ H W (.ok v s2) Q) :
    ∀ z H', Go X.K Xn A H0 s2 σ H2 s2 σ H' → VR X.K Xn A H0 s2 σ H H' v z → Q z H' := fun z H' g' r => h z H' (g.trans g') r

theorem snd_bin {op : BOp} {a b : E} (ha : SndE T Φ Xn Xr a) (hb : SndE T Φ Xn Xr b) : SndE T Φ Xn Xr (.bin op a b) := by
  intro X c pe O t ck W tk A H0 s σ H R Q h
  cases pe <;> simp only [chkE, Bool.false_eq_true] at ck
  rename_i l o r pos
  simp only [Bool.and_eq_true, decide_eq_true_eq] at ck
  obtain ⟨⟨rfl, ca⟩, cb⟩ := ck
  refine of_pe (pe_op or_w pe_w pe_w) ?_
  refine two O t ha hb ca cb tk R (f := fun x y s2 => match x.get s2, y.get s2 with
        | some dx, some dy => ofO (binD op dx dy) s2
        | _, _ => .no) (Q := Q) (by rw [ev] at h; exact h) fun v w s2 x y H2 g r1 r2 h => ?_
  cases e1 : v.get s2 with
  | none => simp only [e1] at h; exact h.elim
  | some dx =>
    cases e2 : w.get s2 with
    | none => simp only [e1, e2] at h; exact h.elim
    | some dy =>
      simp only [e1, e2] at h
      cases e3 : binD op dx dy with
      | none => rw [e3] at h; exact h.elim
      | some z =>
        rw [e3] at h
        exact bin_sound (Hs := H) t.xn g.rel (fun p hp => g.none_of hp) e3 (get_ok g.rel r1 e1) (get_ok g.rel r2 e2) (fin_of g h)
end
end Mi

/-! Mi6: expressions, one by one. -/
namespace Mi
open PySem PySem.Spec PyProof.Rows L2
section
variable {T : Tx} {Φ : Env} {Xn : XnT} {Xr : XrT} {X : Cx} {c : Cxt}
theorem snd_int {i : Int} : SndE T Φ Xn Xr (.int i) := by
  intro X c pe O t ck W tk A H0 s σ H R Q h
  cases pe <;> simp only [chkE, Bool.false_eq_true] at ck
  rename_i k n pos
  cases k <;> simp only [isC, decide_eq_true_eq, Bool.false_eq_true] at ck
  subst ck
  rw [ev] at h
  exact of_pe pe_int (h _ H (Go.refl R) (.int _))
theorem snd_bl {i : Bool} : SndE T Φ Xn Xr (.bl i) := by
  intro X c pe O t ck W tk A H0 s σ H R Q h
  cases pe <;> simp only [chkE, Bool.false_eq_true] at ck
  rename_i k n pos
  cases k <;> simp only [isC, beq_iff_eq, Bool.false_eq_true] at ck
  subst ck
  rw [ev] at h
  exact of_pe pe_bl (h _ H (Go.refl R) (.bl _))
theorem snd_non : SndE T Φ Xn Xr .non := by
  intro X c pe O t ck W tk A H0 s σ H R Q h
  cases pe <;> simp only [chkE, Bool.false_eq_true] at ck
  rename_i k n pos
  cases k <;> simp only [isC, Bool.false_eq_true] at ck
  rw [ev] at h
  exact of_pe pe_non (h _ H (Go.refl R) .non)
theorem snd_str {i : Str} : SndE T Φ Xn Xr (.str i) := by
  intro X c pe O t ck W tk A H0 s σ H R Q h
  cases pe <;> simp only [chkE, Bool.false_eq_true] at ck
  rename_i k n pos
  cases k <;> simp only [isC, decide_eq_true_eq, Bool.false_eq_true] at ck
  subst ck
  rw [ev] at h
  exact of_pe pe_str (h _ H (Go.refl R) (.str _))
theorem snd_var {i : Nat} : SndE T Φ Xn Xr (.var i) := by
  intro X c pe O t ck W tk A H0 s σ H R Q h
  cases pe <;> simp only [chkE, Bool.false_eq_true] at ck
  rename_i x pos
  simp only [Bool.and_eq_true, decide_eq_true_eq] at ck
  obtain ⟨v1, v2, v3⟩ := O.vis ck.2
  refine of_pe (pe_var (i := i) (by rw [O.N]; exact ck.1) v1 v2 v3) ?_
  rw [ev] at h
  split at h
  · rename_i d hs
    obtain ⟨v, e1, e2⟩ := R.val i d hs
    exact ⟨v, e1, h _ H (Go.refl R) e2⟩
  · rename_i p d hs
    obtain ⟨a, e1, e2, _⟩ := R.own i p d hs
    exact ⟨_, e1, h _ H (Go.refl R) e1⟩
  · exact h.elim
theorem snd_glb {k : Nat} : SndE T Φ Xn Xr (.glb k) := by
  intro X c pe O t ck W tk A H0 s σ H R Q h
  cases pe <;> simp only [chkE, Bool.false_eq_true] at ck
  rename_i x pos
  simp only [Bool.and_eq_true, decide_eq_true_eq] at ck
  obtain ⟨v1, v2, v3⟩ := O.gl ck.2
  obtain ⟨v, u, e1, e2, e3⟩ := t.glb k x ck.1
  refine of_pe (pe_glob v1 e1 e2 v2) ?_
  rw [ev] at h
  exact h _ H (Go.refl R) ((e3 H).weak fun _ _ => trivial)
theorem snd_neg {a : E} (ha : SndE T Φ Xn Xr a) : SndE T Φ Xn Xr (.neg a) := by
  intro X c pe O t ck W tk A H0 s σ H R Q h
  cases pe <;> simp only [chkE, Bool.false_eq_true] at ck
  rename_i o x pos
  simp only [Bool.and_eq_true, decide_eq_true_eq] at ck
  obtain ⟨rfl, ca⟩ := ck
  refine of_pe (pe_un un_neg pe_w) ?_
  refine one O t ha ca tk R (f := fun x s1 => match x.get s1 with
      | some (.int i) => .ok (.dt (.int (-i))) s1
      | _ => .no) (Q := Q) (by rw [ev] at h; exact h) fun v s1 x H1 g r h => ?_
  split at h
  · rename_i i e1
    obtain rfl := (get_ok g.rel r.late e1).int_inv
    exact ⟨_, rfl, h _ H1 g (.int _)⟩
  · exact h.elim
theorem snd_not {a : E} (ha : SndE T Φ Xn Xr a) : SndE T Φ Xn Xr (.not a) := by
  intro X c pe O t ck W tk A H0 s σ H R Q h
  cases pe <;> simp only [chkE, Bool.false_eq_true] at ck
  rename_i o x pos
  simp only [Bool.and_eq_true, decide_eq_true_eq] at ck
  obtain ⟨rfl, ca⟩ := ck
  refine of_pe (pe_not pe_w) ?_
  refine one O t ha ca tk R (f := fun x s1 => match x with
      | .dt (.bool b) => .ok (.dt (.bool (!b))) s1
      | _ => .no) (Q := Q) (by rw [ev] at h; exact h) fun v s1 x H1 g r h => ?_
  split at h
  · rename_i b
    obtain rfl := Rp.bl_inv r
    exact ⟨_, rfl, h _ H1 g (.bl _)⟩
  · exact h.elim
theorem snd_cmp {op : COp} {a b : E} (ha : SndE T Φ Xn Xr a) (hb : SndE T Φ Xn Xr b) : SndE T Φ Xn Xr (.cmp op a b) := by
  intro X c pe O t ck W tk A H0 s σ H R Q h
  cases pe <;> try (simp only [chkE, Bool.false_eq_true] at ck; done)
  rename_i l os rs pos
  match os, rs, ck with
  | [o], [r], ck =>
    simp only [chkE, Bool.and_eq_true, decide_eq_true_eq, Bool.not_eq_true'] at ck
    obtain ⟨⟨⟨rfl, ca⟩, cb⟩, cm⟩ := ck
    refine of_pe (pe_cmpR or_w pe_w pe_w cm) ?_
    refine two O t ha hb ca cb tk R (f := fun x y s2 => match x.get s2, y.get s2 with
          | some dx, some dy => ofO ((cmpD op dx dy).map fun b => .dt (.bool b)) s2
          | _, _ => .no) (Q := Q) (by rw [ev] at h; exact h) fun v w s2 x y H2 g r1 r2 h => ?_
    split at h
    · rename_i dx dy e1 e2
      cases e3 : cmpD op dx dy with
      | none => rw [e3] at h; exact h.elim
      | some z =>
        rw [e3] at h
        exact cmp_sound g.rel O.hu e3 (get_ok g.rel r1 e1) (get_ok g.rel r2 e2) (h _ H2 g (.bl _))
    · exact h.elim
  | [], _, ck => simp [chkE] at ck
  | _ :: _ :: _, _, ck => simp [chkE] at ck
  | [_], [], ck => simp [chkE] at ck
  | [_], _ :: _ :: _, ck => simp [chkE] at ck
theorem snd_ix {a b : E} (ha : SndE T Φ Xn Xr a) (hb : SndE T Φ Xn Xr b) : SndE T Φ Xn Xr (.ix a b) := by
  intro X c pe O t ck W tk A H0 s σ H R Q h
  cases pe <;> try (simp only [chkE, Bool.false_eq_true] at ck; done)
  rename_i l r pos
  simp only [chkE, Bool.and_eq_true] at ck
  obtain ⟨⟨ca, cb⟩, cn⟩ := ck
  have pl : PlainIx r := by cases r <;> first | (intro o i; rfl) | cases cn
  refine of_pe (pe_ix ix_seq pe_w pe_w pl) ?_
  refine two O t ha hb ca cb tk R (f := fun x y s2 => match x.get s2, y.get s2 with
        | some dx, some dy => ofO ((ixD dx dy).map .dt) s2
        | _, _ => .no) (Q := Q) (by rw [ev] at h; exact h) fun v w s2 x y H2 g r1 r2 h => ?_
  split at h
  · rename_i dx dy e1 e2
    cases e3 : ixD dx dy with
    | none => rw [e3] at h; exact h.elim
    | some z =>
      rw [e3] at h
      exact ix_sound (Hs := H) g.rel e3 (get_ok g.rel r1 e1) (get_ok g.rel r2 e2) (fin_of g h)
  · exact h.elim
/-! ### lists of expressions -/
def SndEs (T : Tx) (Φ : Env) (Xn : XnT) (Xr : XrT) (es : Es) : Prop := ∀ (X : Cx) (c : Cxt) (pes : List Expr), Okx X c → Okt X T c Φ Xn Xr → chkEs T c es pes = true → ∀ (W : WX), Takes X W → ∀ (A : Addr → Prop) (H0 : Hp) (s : Sl) (σ : L2.St) (H : Hp),
  Rel X.K Xn A H0 s σ H → ∀ Q : List V → Hp → Prop, Outs X.K Xn Xr A H0 s σ H W (evs Φ es s) Q → ∃ t : TA, PA X pes t ∧ t σ H Q
theorem snds_nil : SndEs T Φ Xn Xr .nil := by
  intro X c pes O t ck W tk A H0 s σ H R Q h
  cases pes with
  | cons _ _ => simp [chkEs] at ck
  | nil =>
    rw [evs] at h
    exact ⟨_, pa_nil, h _ H (Go.refl R) .nil⟩
theorem snds_cons {e : E} {es : Es} (he : SndE T Φ Xn Xr e) (hes : SndEs T Φ Xn Xr es) : SndEs T Φ Xn Xr (.cons e es) := by
  intro X c pes O t ck W tk A H0 s σ H R Q h
  cases pes with
  | nil => simp [chkEs] at ck
  | cons x xs =>
    simp only [chkEs, Bool.and_eq_true] at ck
    refine ⟨_, pa_cons pe_w (pa_w (es := xs)) (nostar (chk_noStar ck.1)), ?_⟩
    refine he X c x O t ck.1 W tk A H0 s σ H R _ ?_
    rw [evs] at h
    cases ea : ev Φ e s with
    | no => rw [ea] at h; exact h.elim
    | ex cc args s1 => rw [ea] at h; exact fun cls dx H' g r => h cls dx H' g r
    | ok v s1 =>
      rw [ea] at h
      dsimp only at h
      intro y H1 g1 r1
      have key : ∃ t : TA, PA X xs t ∧ t σ H1 (fun vs H2 => Q (y :: vs) H2) := by
        refine hes X c xs O t ck.2 W tk A H0 s1 σ H1 g1.rel _ ?_
        cases eb : evs Φ es s1 with
        | no => rw [eb] at h; exact h.elim
        | ex cc args s2 => rw [eb] at h; exact fun cls dx H' g r => h cls dx H' (g1.trans g) r
        | ok vs s2 =>
          rw [eb] at h
          dsimp only at h
          exact fun ys H2 g2 r2 => h _ H2 (g1.trans g2) (.cons (r1.late.go g2) r2)
      obtain ⟨t', p, q⟩ := key
      exact fun pos pins s I => p.run pos pins s σ H1 _ I q
/-- the arguments, then what the values are used for -/
theorem args {es : Es} {pes : List Expr} (O : Okx X c) (t : Okt X T c Φ Xn Xr) (hes : SndEs T Φ Xn Xr es) (ck : chkEs T c es pes = true) {W : WX} (tk : Takes X W) {A : Addr → Prop} {H0 : Hp} {s : Sl} {σ : L2.St} {H : Hp}
    (R : Rel X.K Xn A H0 s σ H) {f : List Vl → Sl → Mi.R Vl} {Q : VK} {P : List V → Hp → Prop}
    (h : Out X.K Xn Xr A H0 s σ H W (match evs Φ es s with
      | .ok vs s1 => f vs s1
      | .ex c args s1 => .ex c args s1
      | .no => .no) Q)
    (k : ∀ vs s1 xs H1, Go X.K Xn A H0 s σ H s1 σ H1 → VLs X.K A s1 σ H1 vs xs → Out X.K Xn Xr A H0 s σ H W (f vs s1) Q → P xs H1) :
    wpA X pes σ H P := by
  have key : ∃ t : TA, PA X pes t ∧ t σ H P := by
    refine hes X c pes O t ck W tk A H0 s σ H R _ ?_
    cases ea : evs Φ es s with
    | no => rw [ea] at h; exact h.elim
    | ex c args s1 => rw [ea] at h; exact fun cls dx H' g r => h cls dx H' g r
    | ok v s1 =>
      rw [ea] at h
      dsimp only at h
      intro x H1 g1 r1
      exact k v s1 x H1 g1 r1 h
  obtain ⟨t', p, q⟩ := key
  exact fun pos pins s I => p.run pos pins s σ H _ I q
theorem snd_tup {es : Es} (hes : SndEs T Φ Xn Xr es) : SndE T Φ Xn Xr (.tup es) := by
  intro X c pe O t ck W tk A H0 s σ H R Q h
  cases pe <;> try (simp only [chkE, Bool.false_eq_true] at ck; done)
  rename_i xs k pos
  simp only [chkE] at ck
  refine of_pe (pe_tup pa_w) ?_
  refine args O t hes ck tk R (f := fun vs s1 => match escs s1 vs with
      | some (ds, s2) => if sizeB ds.length then .ok (.dt (.tuple ds)) s2 else .no
      | none => .no) (Q := Q) (by rw [ev] at h; exact h) fun vs s1 xs H1 g r h => ?_
  split at h
  · rename_i ds s2 e1
    split at h
    · rename_i hz
      obtain ⟨g2, r2⟩ := escs_ok g.rel r e1
      refine ⟨by rw [r2.length]; exact of_decide_eq_true hz, fun p hp => ?_⟩
      obtain ⟨g3, r3⟩ := new_tup t.xn g2.rel hp r2
      exact h _ _ ((g.trans g2).trans g3) r3
    · exact h.elim
  · exact h.elim
theorem snd_lst {es : Es} (hes : SndEs T Φ Xn Xr es) : SndE T Φ Xn Xr (.lst es) := by
  intro X c pe O t ck W tk A H0 s σ H R Q h
  cases pe <;> try (simp only [chkE, Bool.false_eq_true] at ck; done)
  rename_i xs pos
  simp only [chkE] at ck
  refine of_pe (pe_lst pa_w) ?_
  refine args O t hes ck tk R (f := fun vs s1 => match escs s1 vs with
      | some (ds, s2) => if sizeB ds.length then .ok (.nw (.list ds)) s2 else .no
      | none => .no) (Q := Q) (by rw [ev] at h; exact h) fun vs s1 xs H1 g r h => ?_
  split at h
  · rename_i ds s2 e1
    split at h
    · rename_i hz
      obtain ⟨g2, r2⟩ := escs_ok g.rel r e1
      refine ⟨by rw [r2.length]; exact of_decide_eq_true hz, fun p hp => ?_⟩
      obtain ⟨g3, r3⟩ := new_lst (Hs := H) t.xn g2.rel ((g.trans g2).none_of hp) hp r2
      exact h _ _ ((g.trans g2).trans g3) r3
    · exact h.elim
  · exact h.elim
theorem blt_in (b : Blt) : bltS b ∈ blts := by cases b <;> decide +kernel
theorem snd_blt {b : Blt} {es : Es} (hes : SndEs T Φ Xn Xr es) : SndE T Φ Xn Xr (.blt b es) := by
  intro X c pe O t ck W tk A H0 s σ H R Q h
  cases pe <;> try (simp only [chkE, Bool.false_eq_true] at ck; done)
  rename_i fe as kws pos
  cases fe <;> try (simp only [chkE, Bool.false_eq_true] at ck; done)
  rename_i x p
  match kws, ck with
  | _ :: _, ck => simp [chkE] at ck
  | [], ck =>
    simp only [chkE, Bool.and_eq_true, Bool.not_eq_true', decide_eq_true_eq] at ck
    obtain ⟨⟨⟨⟨hc, rfl⟩, hg⟩, hes'⟩, hne⟩ := ck
    have hm := t.blt _ (blt_in b)
    obtain ⟨g1, g2, g3⟩ := O.gl hg
    cases as with
    | nil => simp at hne
    | cons e as =>
      have he : starEach (e :: as) X.env = (false, eval e X.env) :: starEach as X.env := by
        cases es with
        | nil => simp [chkEs] at hes'
        | cons e' es' =>
          simp only [chkEs, Bool.and_eq_true] at hes'
          exact nostar (chk_noStar hes'.1)
      have hpl : (backTo pos (starEach as X.env)).any (·.1) = false := by
        cases es with
        | nil => simp [chkEs] at hes'
        | cons e' es' =>
          simp only [chkEs, Bool.and_eq_true] at hes'
          exact chks_plain hes'.2
      have fin : tCB (wpC X (bltV b)) (wpA X (e :: as)) σ H Q := by
        refine args O t hes hes' tk R (f := fun vs s1 => match gets s1 vs with
          | some ds => ofO (bltD b ds) s1
          | none => .no) (Q := Q) (by rw [ev] at h; exact h) fun vs s1 xs H1 g r h => ?_
        split at h
        · rename_i ds e1
          obtain ⟨_, _, r1⟩ := gets_ok g.rel r e1
          cases e3 : bltD b ds with
          | none => rw [e3] at h; exact h.elim
          | some z =>
            rw [e3] at h
            exact blt_sound (Hs := H) (O.calm hc) t.xn g.rel (fun p hp => g.none_of hp) e3 r1 (fin_of g h)
        · exact h.elim
      cases b <;> first
        | exact of_pe (pe_callB cr_w g1 hm (by decide +kernel) pa_w g3 g2 he hpl) fin
        | exact of_pe (pe_callTy cr_w g1 hm (by decide +kernel) pa_w g3 g2 he hpl) fin
end
end Mi

/-! Mi7: calls of the text's own defs. -/
namespace Mi
open PySem PySem.Spec PyProof.Rows L2
section
variable {K : PySem.W.Frag} {Xn : XnT} {A : Addr → Prop} {H0 : Hp} {s s' s1 s2 s3 : Sl} {σ : L2.St} {H H' H1 H2 : Hp}
/-- what the callee only reads is no more the slot's own -/
def unm (s : Sl) : List Bool → List Vl → Prop
  | _, [] => True
  | true :: m, _ :: vs => unm s m vs
  | false :: m, v :: vs => (∀ i, v = .br i → ∃ d, s[i]? = some (Slot.val d)) ∧ unm s m vs
  | [], v :: vs => (∀ i, v = .br i → ∃ d, s[i]? = some (Slot.val d)) ∧ unm s [] vs
theorem esc_keep {v : Vl} {d : D} (e : esc s v = some (d, s')) : (∀ (i : Nat) (d : D), s[i]? = some (Slot.val d) → s'[i]? = some (Slot.val d)) ∧ ∀ i, v = .br i → ∃ d, s'[i]? = some (Slot.val d) := by
  cases v with
  | dt d' => cases e; exact ⟨fun _ _ h => h, fun i z => by cases z⟩
  | nw d' => cases e; exact ⟨fun _ _ h => h, fun i z => by cases z⟩
  | br i =>
    unfold esc at e
    simp only at e
    split at e
    · rename_i d' hs
      cases e
      exact ⟨fun _ _ h => h, fun j z => by cases z; exact ⟨_, hs⟩⟩
    · rename_i d' hs
      cases e
      have hlt : i < s.length := (List.getElem?_eq_some_iff.mp hs).1
      refine ⟨fun j d'' h => ?_, fun j z => by cases z; exact ⟨d, List.getElem?_set_self hlt⟩⟩
      by_cases hj : j = i
      · subst hj
        rw [h] at hs
        cases hs
      · rw [get_set_ne hj]
        exact h
    · cases e
theorem unm_keep (k : ∀ (i : Nat) (d : D), s[i]? = some (Slot.val d) → s'[i]? = some (Slot.val d)) : ∀ {m : List Bool} {vs : List Vl}, unm s m vs → unm s' m vs
  | _, [], _ => by simp [unm]
  | true :: m, v :: vs, h => by
    simp only [unm] at h ⊢
    exact unm_keep k h
  | false :: m, v :: vs, h => by
    simp only [unm] at h ⊢
    exact ⟨fun i z => let ⟨d, e⟩ := h.1 i z; ⟨d, k i d e⟩, unm_keep k h.2⟩
  | [], v :: vs, h => by
    simp only [unm] at h ⊢
    exact ⟨fun i z => let ⟨d, e⟩ := h.1 i z; ⟨d, k i d e⟩, unm_keep k h.2⟩
theorem escM_ok : ∀ {m : List Bool} {vs : List Vl} {xs : List V} {s s2 : Sl}, Rel K Xn A H0 s σ H → VLs K A s σ H vs xs → escM m vs s = some s2 →
    Go K Xn A H0 s σ H s2 σ H ∧ unm s2 m vs ∧ ∀ (i : Nat) (d : D), s[i]? = some (Slot.val d) → s2[i]? = some (Slot.val d)
  | m, [], _, s, s2, R, _, e => by
    have e : some s = some s2 := by cases m with | nil => simpa [escM] using e | cons b m => cases b <;> simpa [escM] using e
    cases e
    exact ⟨Go.refl R, by simp [unm], fun _ _ h => h⟩
  | true :: m, v :: vs, _, s, s2, R, .cons h hs, e => by
    simp only [escM] at e
    obtain ⟨g, u, k⟩ := escM_ok R hs e
    exact ⟨g, by simpa [unm] using u, k⟩
  | false :: m, v :: vs, _, s, s2, R, .cons h hs, e => by
    simp only [escM] at e
    split at e
    · rename_i d s1 e1
      obtain ⟨g1, _⟩ := esc_ok R h e1
      obtain ⟨k1, k1'⟩ := esc_keep e1
      obtain ⟨g, u, k⟩ := escM_ok g1.rel (hs.go g1) e
      refine ⟨g1.trans g, ?_, fun i d h => k i d (k1 i d h)⟩
      simp only [unm]
      exact ⟨fun i z => let ⟨d, e⟩ := k1' i z; ⟨d, k i d e⟩, u⟩
    · cases e
  | [], v :: vs, _, s, s2, R, .cons h hs, e => by
    simp only [escM] at e
    split at e
    · rename_i d s1 e1
      obtain ⟨g1, _⟩ := esc_ok R h e1
      obtain ⟨k1, k1'⟩ := esc_keep e1
      obtain ⟨g, u, k⟩ := escM_ok g1.rel (hs.go g1) e
      refine ⟨g1.trans g, ?_, fun i d h => k i d (k1 i d h)⟩
      simp only [unm]
      exact ⟨fun i z => let ⟨d, e⟩ := k1' i z; ⟨d, k i d e⟩, u⟩
    · cases e
/-- a value that is not the slot's own -/
theorem rp_of (R : Rel K Xn A H0 s σ H) {v : Vl} {x : V} {d : D} (h : VL K A s σ H v x) (u : ∀ i, v = .br i → ∃ d, s[i]? = some (Slot.val d)) (e : v.get s = some d) : Rp (Zs A s σ) K H x d := by
  cases v with
  | dt d' => cases e; exact h
  | nw d' => cases e; exact h
  | br i =>
    obtain ⟨d', hs⟩ := u i rfl
    unfold Vl.get at e
    simp only [hs] at e
    cases e
    obtain ⟨w, e1, e2⟩ := R.val i _ hs
    have h : σ[i]? = some (some x) := h
    rw [h] at e1
    cases e1
    exact e2
/-- the masked arguments' slots and values -/
abbrev Mk (s : Sl) (σ : L2.St) : List Nat → List V → Prop := Paired fun i x => ∃ a p d, x = V.ref a ∧ s[i]? = some (Slot.own p d) ∧ σ[i]? = some (some (V.ref a))
theorem mk_of (R : Rel K Xn A H0 s σ H) : ∀ {m : List Bool} {vs : List Vl} {xs : List V}, VLs K A s σ H vs xs → mskOk s m vs = true → Mk s σ (brs m vs) (mskV m xs) ∧ (brs m vs).Nodup
  | m, [], _, .nil, _ => by
    cases m with
    | nil => exact ⟨.nil, by simp [brs]⟩
    | cons b m => cases b <;> exact ⟨.nil, by simp [brs]⟩
  | [], v :: vs, _, .cons h hs, _ => ⟨.nil, by simp [brs]⟩
  | false :: m, v :: vs, _, .cons h hs, e => by
    simp only [mskOk] at e
    have := mk_of R hs e
    cases v <;> simpa [brs, mskV] using this
  | true :: m, v :: vs, x :: xs, .cons h hs, e => by
    simp only [mskOk, Bool.and_eq_true] at e
    obtain ⟨ih, nd⟩ := mk_of R hs e.2
    cases v with
    | dt d => simp at e
    | nw d => simp at e
    | br i =>
      have h : σ[i]? = some (some x) := h
      have e1 := e.1
      simp only [Bool.and_eq_true, Bool.not_eq_true'] at e1
      have e11 := e1.1
      split at e11
      · rename_i p d hs'
        refine ⟨?_, ?_⟩
        · simp only [brs, mskV]
          obtain ⟨a, e3, _⟩ := R.own i p d hs'
          rw [h] at e3
          cases e3
          exact .cons ⟨a, p, d, rfl, hs', h⟩ ih
        · simp only [brs, List.nodup_cons]
          exact ⟨by simpa using e1.2, nd⟩
      · cases e11
theorem mk_nodup (R : Rel K Xn A H0 s σ H) : ∀ {is : List Nat} {ms : List V}, Mk s σ is ms → is.Nodup → ms.Nodup
  | _, _, .nil, _ => .nil
  | i :: is, x :: ms, .cons h hs, nd => by
    rw [List.nodup_cons] at nd ⊢
    refine ⟨fun hm => ?_, mk_nodup R hs nd.2⟩
    obtain ⟨a, p, d, rfl, h1, h2⟩ := h
    have : ∀ {is : List Nat} {ms : List V}, Mk s σ is ms → V.ref a ∈ ms → i ∈ is := by
      intro is ms hm
      induction hm with
      | nil => intro z; simp at z
      | cons q _ ih =>
        intro z
        rcases List.mem_cons.mp z with z | z
        · obtain ⟨b, p', d', e1, e2, e3⟩ := q
          rw [e1] at z
          cases z
          rw [R.inj i _ p p' d d' a h1 e2 h2 e3]
          exact List.mem_cons_self
        · exact List.mem_cons_of_mem _ (ih z)
    exact nd.1 (this hs hm)
theorem mk_exc {is : List Nat} {ms : List V} (h : Mk s σ is ms) : ∀ b, V.ref b ∈ ms → exc s σ b := by
  induction h with
  | nil => intro b z; simp at z
  | cons q _ ih =>
    intro b z
    rcases List.mem_cons.mp z with z | z
    · obtain ⟨a, p, d, e1, e2, e3⟩ := q
      rw [e1] at z
      cases z
      exact ⟨_, p, d, e2, e3⟩
    · exact ih b z
/-- the defaults -/
theorem argsOk_dv {Z : Addr → Prop} : ∀ {m : List Bool} {dv ev : List D}, (∀ b ∈ m, b = false) → sameDs dv ev = true → argsOk K Z H m (ev.map dV) dv
  | [], [], [], _, _ => by simp [argsOk]
  | b :: m, [], [], _, _ => by cases b <;> simp [argsOk]
  | m, [], _ :: _, _, h => by simp [sameDs] at h
  | m, _ :: _, [], _, h => by simp [sameDs] at h
  | [], a :: dv, b :: ev, hm, h => by
    simp only [sameDs, Bool.and_eq_true] at h
    simp only [List.map_cons, argsOk]
    refine ⟨?_, argsOk_dv hm h.2⟩
    cases a <;> cases b <;> simp only [sameD, Bool.false_eq_true, false_and, decide_eq_true_eq, beq_iff_eq] at h
    · exact .non
    · rw [h.1]; exact .bl _
    · rw [h.1]; exact .int _
  | true :: m, a :: dv, b :: ev, hm, h => by
    have := hm true List.mem_cons_self
    cases this
  | false :: m, a :: dv, b :: ev, hm, h => by
    simp only [sameDs, Bool.and_eq_true] at h
    simp only [List.map_cons, argsOk]
    refine ⟨?_, argsOk_dv (fun b hb => hm b (List.mem_cons_of_mem _ hb)) h.2⟩
    cases a <;> cases b <;> simp only [sameD, Bool.false_eq_true, false_and, decide_eq_true_eq, beq_iff_eq] at h
    · exact .non
    · rw [h.1]; exact .bl _
    · rw [h.1]; exact .int _
theorem args_ok (R : Rel K Xn A H0 s σ H) {dv ev : List D} (hd : sameDs dv ev = true) : ∀ {m : List Bool} {vs : List Vl} {xs : List V} {ds : List D}, VLs K A s σ H vs xs → unm s m vs → mskOk s m vs = true → gets s vs = some ds →
    (∀ b ∈ m.drop vs.length, b = false) → argsOk K (Zs A s σ) H m (xs ++ ev.map dV) (ds ++ dv)
  | m, [], _, ds, .nil, _, _, e, hm => by
    unfold gets at e
    cases e
    exact argsOk_dv (by simpa using hm) hd
  | m, v :: vs, x :: xs, ds, .cons h hs, u, mk, e, hm => by
    unfold gets at e
    split at e
    · rename_i d e1
      split at e
      · rename_i ds' e2
        cases e
        match m, u, mk, hm with
        | [], u, mk, hm =>
          simp only [unm] at u
          simp only [List.cons_append, argsOk]
          exact ⟨rp_of R h u.1 e1, args_ok R hd hs u.2 (by cases vs <;> simp [mskOk]) e2 (by simp)⟩
        | false :: m, u, mk, hm =>
          simp only [unm] at u
          simp only [mskOk] at mk
          simp only [List.cons_append, argsOk]
          exact ⟨rp_of R h u.1 e1, args_ok R hd hs u.2 mk e2 (by simpa using hm)⟩
        | true :: m, u, mk, hm =>
          simp only [unm] at u
          simp only [mskOk, Bool.and_eq_true] at mk
          simp only [List.cons_append, argsOk]
          refine ⟨?_, args_ok R hd hs u mk.2 e2 (by simpa using hm)⟩
          cases v with
          | dt d => simp at mk
          | nw d => simp at mk
          | br i =>
            have h : σ[i]? = some (some x) := h
            have e11 := mk.1
            simp only [Bool.and_eq_true, Bool.not_eq_true'] at e11
            have e11 := e11.1
            split at e11
            · rename_i p d' hs'
              obtain ⟨a, e3, e4, _⟩ := R.own i p d' hs'
              rw [h] at e3
              cases e3
              unfold Vl.get at e1
              simp only [hs'] at e1
              cases e1
              exact ⟨a, rfl, .inr ⟨i, p, d, hs', h⟩, e4⟩
            · cases e11
      · cases e
    · cases e
/-! ### the changed lists -/
theorem backL_len : ∀ {is : List Nat} {os : List D} {s s3 : Sl}, backL s is os = some s3 → s3.length = s.length ∧ is.length = os.length
  | [], [], _, _, e => by cases e; exact ⟨rfl, rfl⟩
  | [], _ :: _, _, _, e => by simp [backL] at e
  | _ :: _, [], _, _, e => by simp [backL] at e
  | i :: is, o :: os, s, s3, e => by
    simp only [backL] at e
    split at e
    · obtain ⟨h1, h2⟩ := backL_len e
      exact ⟨by simpa using h1, by simpa using h2⟩
    · cases e
theorem backL_other : ∀ {is : List Nat} {os : List D} {s s3 : Sl}, backL s is os = some s3 → ∀ j : Nat, j ∉ is → s3[j]? = s[j]?
  | [], [], _, _, e, j, _ => by cases e; rfl
  | [], _ :: _, _, _, e, _, _ => by simp [backL] at e
  | _ :: _, [], _, _, e, _, _ => by simp [backL] at e
  | i :: is, o :: os, s, s3, e, j, hj => by
    simp only [backL] at e
    split at e
    · rw [backL_other e j (fun z => hj (List.mem_cons_of_mem _ z))]
      exact get_set_ne fun z => hj (z ▸ List.mem_cons_self)
    · cases e
theorem backL_at {Z : Addr → Prop} : ∀ {is : List Nat} {os : List D} {ms : List V} {s0 s s3 : Sl}, is.Nodup → backL s is os = some s3 → Mk s0 σ is ms → outsOk K Z H' ms os → (∀ i ∈ is, s[i]? = s0[i]?) →
    ∀ j : Nat, j ∈ is → ∃ p d d' a, s0[j]? = some (Slot.own p d) ∧ s3[j]? = some (Slot.own p d') ∧ σ[j]? = some (some (V.ref a)) ∧ OwnOk Z K H' a d'
  | [], _, _, _, _, _, _, _, _, _, _, j, hj => by simp at hj
  | _ :: _, [], _, _, _, _, _, e, _, _, _, _, _ => by simp [backL] at e
  | i :: is, o :: os, _ :: ms, s0, s, s3, nd, e, .cons m mk, ok, hs, j, hj => by
    simp only [backL] at e
    rw [List.nodup_cons] at nd
    obtain ⟨a, p, d, rfl, h1, h2⟩ := m
    simp only [outsOk] at ok
    obtain ⟨⟨a', ea, ho⟩, ok⟩ := ok
    cases ea
    have hi := hs i List.mem_cons_self
    rw [hi, h1] at e
    simp only at e
    have hlt : i < s.length := by
      rw [h1] at hi
      exact (List.getElem?_eq_some_iff.mp hi).1
    by_cases hji : j = i
    · subst hji
      refine ⟨p, d, o, a, h1, ?_, h2, ho⟩
      rw [backL_other e j nd.1]
      exact List.getElem?_set_self hlt
    · rcases List.mem_cons.mp hj with z | z
      · exact absurd z hji
      · exact backL_at nd.2 e mk ok (fun k hk => by
          rw [get_set_ne (fun z => nd.1 (by rw [← z]; exact hk))]
          exact hs k (List.mem_cons_of_mem _ hk)) j z
/-- behind a call -/
theorem back_rel (hx : XnOk Xn) {A' : Addr → Prop} (R : Rel K Xn A H0 s2 σ H2) {is : List Nat} {ms : List V} {os : List D} (nd : is.Nodup) (mk : Mk s2 σ is ms) (fr : callFr ms H2 H') (ok : outsOk K (Zs A' s2 σ) H' ms os) (e : backL s2 is os = some s3)
    (a1 : ∀ b, A b → A' b) (a2 : ∀ b, A' b → A b ∨ H2 b = none) (a3 : ∀ b, A' b → H' b ≠ none) : Rel K Xn A' H0 s3 σ H' ∧ ∀ b, exc s3 σ b ↔ exc s2 σ b := by
  obtain ⟨l1, l2⟩ := backL_len e
  have cut : ∀ j : Nat, (j ∈ is ∧ ∃ p d d' a, s2[j]? = some (Slot.own p d) ∧ s3[j]? = some (Slot.own p d') ∧ σ[j]? = some (some (V.ref a)) ∧ OwnOk (Zs A' s2 σ) K H' a d') ∨ (j ∉ is ∧ s3[j]? = s2[j]?) := fun j => by
    by_cases hj : j ∈ is
    · exact .inl ⟨hj, backL_at nd e mk ok (fun _ _ => rfl) j hj⟩
    · exact .inr ⟨hj, backL_other e j hj⟩
  have ex : ∀ b, exc s3 σ b ↔ exc s2 σ b := fun b => by
    constructor
    · rintro ⟨j, p, d, h1, h2⟩
      rcases cut j with ⟨_, p', d', d'', a, g1, g2, g3, _⟩ | ⟨_, g⟩
      · exact ⟨j, p', d', g1, h2⟩
      · rw [g] at h1
        exact ⟨j, p, d, h1, h2⟩
    · rintro ⟨j, p, d, h1, h2⟩
      rcases cut j with ⟨_, p', d', d'', a, g1, g2, g3, _⟩ | ⟨_, g⟩
      · exact ⟨j, p', d'', g2, h2⟩
      · rw [← g] at h1
        exact ⟨j, p, d, h1, h2⟩
  have zz : ∀ b, Zs A' s3 σ b → Zs A s2 σ b ∨ H2 b = none := fun b q => by
    rcases q with q | q
    · rcases a2 b q with z | z
      · exact .inl (.inl z)
      · exact .inr z
    · exact .inl (.inr ((ex b).mp q))
  have zz' : ∀ b, Zs A' s3 σ b → Zs A' s2 σ b := fun b q => by
    rcases q with q | q
    · exact .inl q
    · exact .inr ((ex b).mp q)
  have ff : ∀ b o, H2 b = some o → ¬ Zs A s2 σ b → H' b = some o := fun b o h n => fr.1 b o h fun z => n (.inr (mk_exc mk b z))
  refine ⟨⟨l1.trans R.len, a3, fun a h => fr.2 a (R.dom0 a h), fun j d h => ?_, fun j p d h => ?_, fun i j p q d d' a h1 h2 h3 h4 => ?_, fun j c args h => ?_⟩, ex⟩
  · rcases cut j with ⟨_, p', d', d'', a, g1, g2, g3, _⟩ | ⟨_, g⟩
    · rw [g2] at h; cases h
    · rw [g] at h
      obtain ⟨v, e1, e2⟩ := R.val j d h
      exact ⟨v, e1, e2.mono ff zz⟩
  · rcases cut j with ⟨_, p', d', d'', a, g1, g2, g3, ⟨ds, xs, r1, r2, r3⟩⟩ | ⟨hj, g⟩
    · rw [g2] at h
      cases h
      obtain ⟨a', f1, ⟨ds', xs', r1', r2', r3'⟩, f3, f4⟩ := R.own j _ _ g1
      rw [g3] at f1
      cases f1
      refine ⟨a, g3, ⟨ds, xs, r1, r2, r3.weak zz'⟩, fun z => a1 _ (f3 z), fun z => ⟨fun y => ?_, (f4 z).2⟩⟩
      rcases a2 _ y with w | w
      · exact (f4 z).1 w
      · rw [r2'] at w; cases w
    · rw [g] at h
      obtain ⟨a, f1, ⟨ds', xs', r1', r2', r3'⟩, f3, f4⟩ := R.own j _ _ h
      refine ⟨a, f1, ⟨ds', xs', r1', fr.1 a _ r2' fun z => hj ?_, r3'.mono ff zz⟩, fun z => a1 _ (f3 z), fun z => ⟨fun y => ?_, (f4 z).2⟩⟩
      · -- a is none of the masked ones
        have : ∀ {is : List Nat} {ms : List V}, Mk s2 σ is ms → V.ref a ∈ ms → j ∈ is := by
          intro is ms hm
          induction hm with
          | nil => intro z; simp at z
          | cons q _ ih =>
            intro z
            rcases List.mem_cons.mp z with z | z
            · obtain ⟨b, p', d', e1, e2, e3⟩ := q
              rw [e1] at z
              cases z
              rw [R.inj j _ p p' d d' a h e2 f1 e3]
              exact List.mem_cons_self
            · exact List.mem_cons_of_mem _ (ih z)
        exact this mk z
      · rcases a2 _ y with w | w
        · exact (f4 z).1 w
        · rw [r2'] at w; cases w
  · have g : ∀ (j : Nat) q d, s3[j]? = some (Slot.own q d) → ∃ q d, s2[j]? = some (Slot.own q d) := fun j q d h => by
      rcases cut j with ⟨_, p', d', d'', a, g1, g2, g3, _⟩ | ⟨_, g⟩
      · exact ⟨p', d', g1⟩
      · rw [g] at h
        exact ⟨q, d, h⟩
    obtain ⟨_, _, g1⟩ := g i p d h1
    obtain ⟨_, _, g2⟩ := g j q d' h2
    exact R.inj i j _ _ _ _ a g1 g2 h3 h4
  · rcases cut j with ⟨_, p', d', d'', a, g1, g2, g3, _⟩ | ⟨_, g⟩
    · rw [g2] at h; cases h
    · rw [g] at h
      obtain ⟨v, e1, e2⟩ := R.exn j c args h
      refine ⟨v, e1, hx _ _ _ _ _ e2 fun b o hb no => fr.1 b o hb fun z => ?_⟩
      obtain ⟨xs, hxs⟩ := R.exc_lst (mk_exc mk b z)
      rw [hxs] at hb
      cases hb
      exact no xs rfl
theorem back_pin : ∀ {is : List Nat} {os : List D} {s s3 : Sl}, backL s is os = some s3 → ∀ (i : Nat) (d : D), s3[i]? = some (Slot.own true d) → ∃ d0 : D, s[i]? = some (Slot.own true d0)
  | [], [], s, s3, e, i, d, h => by unfold backL at e; cases e; exact ⟨d, h⟩
  | [], _ :: _, s, s3, e, i, d, h => by unfold backL at e; cases e
  | _ :: _, [], s, s3, e, i, d, h => by unfold backL at e; cases e
  | j :: is, o :: os, s, s3, e, i, d, h => by
    unfold backL at e
    split at e
    · rename_i p d' hs
      obtain ⟨d0, q⟩ := back_pin e i d h
      by_cases hj : i = j
      · subst hj
        obtain ⟨z, _⟩ := get_set_eq q
        cases z
        exact ⟨d', hs⟩
      · rw [get_set_ne hj] at q
        exact ⟨d0, q⟩
    · cases e
theorem back_go (hx : XnOk Xn) (R : Rel K Xn A H0 s2 σ H2) {is : List Nat} {ms : List V} {os : List D} (nd : is.Nodup) (mk : Mk s2 σ is ms) (fr : callFr ms H2 H') (ok : outsOk K (Zs A s2 σ) H' ms os) (e : backL s2 is os = some s3) :
    Go K Xn A H0 s2 σ H2 s3 σ H' := by
  obtain ⟨R3, ex⟩ := back_rel hx (A' := A) R nd mk fr ok e (fun _ h => h) (fun _ h => .inl h) fun b h => fr.2 b (R.dom b h)
  exact ⟨R3, fun b o h n => fr.1 b o h fun z => n (mk_exc mk b z), fun b h => .inl ((ex b).mp h), fr.2, fun i d h => ⟨rfl, back_pin e i d h⟩⟩
theorem outsOk_mono {Z Z' : Addr → Prop} (z : ∀ b, Z' b → Z b) : ∀ {ms : List V} {os : List D}, outsOk K Z H ms os → outsOk K Z' H ms os
  | [], [], _ => by simp [outsOk]
  | _ :: _, _ :: _, h => by
    simp only [outsOk] at h ⊢
    obtain ⟨⟨a, e, ds, xs, r1, r2, r3⟩, h⟩ := h
    exact ⟨⟨a, e, ds, xs, r1, r2, r3.weak z⟩, outsOk_mono z h⟩
  | [], _ :: _, h => by simp [outsOk] at h
  | _ :: _, [], h => by simp [outsOk] at h
end
section
variable {T : Tx} {Φ : Env} {Xn : XnT} {Xr : XrT} {X : Cx} {c : Cxt}
theorem VLs.length {K : PySem.W.Frag} {A : Addr → Prop} {s : Sl} {σ : L2.St} {H : Hp} {vs : List Vl} {xs : List V} (h : VLs K A s σ H vs xs) : vs.length = xs.length := by
  induction h with
  | nil => rfl
  | cons _ _ ih => simp [ih]
theorem chks_len : ∀ {es : Es} {pes : List Expr} {s s1 : Sl} {vs : List Vl}, chkEs T c es pes = true → evs Φ es s = .ok vs s1 → vs.length = pes.length
  | .nil, [], s, s1, vs, _, e => by rw [evs] at e; cases e; rfl
  | .nil, _ :: _, _, _, _, h, _ => by simp [chkEs] at h
  | .cons _ _, [], _, _, _, h, _ => by simp [chkEs] at h
  | .cons e es, x :: xs, s, s1, vs, h, q => by
    simp only [chkEs, Bool.and_eq_true] at h
    rw [evs] at q
    split at q
    · rename_i v s2 e1
      split at q
      · rename_i vs' s3 e2
        cases q
        have := chks_len h.2 e2
        simp [this]
      · cases q
      · cases q
    · cases q
    · cases q
theorem sameDs_len : ∀ {as bs : List D}, sameDs as bs = true → as.length = bs.length
  | [], [], _ => rfl
  | [], _ :: _, h => by simp [sameDs] at h
  | _ :: _, [], h => by simp [sameDs] at h
  | a :: as, b :: bs, h => by
    simp only [sameDs, Bool.and_eq_true] at h
    simp [sameDs_len h.2]
theorem apt_zs {A : Addr → Prop} {s : Sl} {σ : L2.St} {p : Addr} : ∀ b, Zs (Apt A p) s σ b ↔ Apt (Zs A s σ) p b := fun b => by
  constructor
  · rintro ((q | q) | q)
    · exact .inl (.inl q)
    · exact .inr q
    · exact .inl (.inr q)
  · rintro ((q | q) | q)
    · exact .inl (.inl q)
    · exact .inr q
    · exact .inl (.inr q)
theorem snd_call {f : Nat} {es : Es} {dv : List D} (hes : SndEs T Φ Xn Xr es) : SndE T Φ Xn Xr (.call f es dv) := by
  intro X c pe O t ck W tk A H0 s σ H R Q h
  cases pe <;> try (simp only [chkE, Bool.false_eq_true] at ck; done)
  rename_i fe as kws pos
  cases fe <;> try (simp only [chkE, Bool.false_eq_true] at ck; done)
  rename_i x p
  match kws, ck with
  | _ :: _, ck => simp [chkE] at ck
  | [], ck =>
    simp only [chkE, Bool.and_eq_true, Bool.not_eq_true', decide_eq_true_eq] at ck
    obtain ⟨⟨⟨⟨hc, hg⟩, hes'⟩, hf⟩, ck⟩ := ck
    split at ck
    · rename_i i hi
      simp only [Bool.and_eq_true, decide_eq_true_eq] at ck
      obtain ⟨⟨⟨⟨⟨rfl, hlen⟩, hdl⟩, _⟩, hsame⟩, hne⟩ := ck
      obtain ⟨a, fd, k, hm, hk, hr, F, hmask, hb⟩ := t.fn hc f i hf hi
      obtain ⟨ds, hds, bds⟩ := hb dv.length hdl
      obtain ⟨g1, g2, g3⟩ := O.gl hg
      cases as with
      | nil => exact absurd rfl hne
      | cons e as =>
        have he : starEach (e :: as) X.env = (false, eval e X.env) :: starEach as X.env := by
          cases es with
          | nil => simp [chkEs] at hes'
          | cons e' es' =>
            simp only [chkEs, Bool.and_eq_true] at hes'
            exact nostar (chk_noStar hes'.1)
        have hpl : (backTo pos (starEach as X.env)).any (·.1) = false := by
          cases es with
          | nil => simp [chkEs] at hes'
          | cons e' es' =>
            simp only [chkEs, Bool.and_eq_true] at hes'
            exact chks_plain hes'.2
        refine of_pe (pe_callSD F hr g1 hm hk bds hds (fun σ => passAt tk σ) pa_w g2 he hpl) ?_
        have len : ∀ vs s1, evs Φ es s = .ok vs s1 → vs.length = (e :: as).length := fun vs s1 q => chks_len hes' q
        refine args O t hes hes' tk R (f := fun vs s1 => if vs.length = (e :: as).length then (match escM (Φ.mask f) vs s1 with
            | some s2 => if mskOk s2 (Φ.mask f) vs then match gets s2 vs with
              | some ds => match Φ.fn f (ds ++ dv) with
                | some (.ok nw d outs) => match backL s2 (brs (Φ.mask f) vs) outs with
                  | some s3 => .ok (vlOf nw d) s3
                  | none => .no
                | some (.ex c args outs) => match backL s2 (brs (Φ.mask f) vs) outs with
                  | some s3 => .ex c args s3
                  | none => .no
                | none => .no
              | none => .no
              else .no
            | none => .no) else .no) (Q := Q) ?_ fun vs s1 xs H1 g r h => ?_
        · rw [ev] at h
          cases ea : evs Φ es s with
          | no => rw [ea] at h; exact h
          | ex c args s1 => rw [ea] at h; exact h
          | ok vs s1 =>
            rw [ea] at h
            simp only [len vs s1 ea, if_true]
            exact h
        · split at h
          · rename_i hvl
            split at h
            · rename_i s2 e1
              split at h
              · rename_i hmk
                split at h
                · rename_i dd e2
                  obtain ⟨gm, um, _⟩ := escM_ok g.rel r e1
                  have r2 := r.go gm
                  have R2 := gm.rel
                  obtain ⟨mk, nd⟩ := mk_of R2 r2 hmk
                  have hxl : xs.length = (e :: as).length := by rw [← r.length]; exact hvl
                  have hml : ∀ b ∈ (Φ.mask f).drop vs.length, b = false := fun b hb => by
                    refine hmask b ?_
                    have e3 : vs.length = i.ps.length - i.dvs.length + (vs.length - (i.ps.length - i.dvs.length)) := by omega
                    rw [e3, ← List.drop_drop] at hb
                    exact List.mem_of_mem_drop hb
                  have hmv : mskV (Φ.mask f) (xs ++ (i.dvs.drop (i.dvs.length - dv.length)).map dV) = mskV (Φ.mask f) xs := by
                    have gen : ∀ (m : List Bool) (xs ys : List V), (∀ b ∈ m.drop xs.length, b = false) → mskV m (xs ++ ys) = mskV m xs := by
                      intro m xs ys
                      induction m generalizing xs with
                      | nil => intro _; cases xs <;> cases ys <;> rfl
                      | cons b m ih =>
                        intro hb
                        cases xs with
                        | nil =>
                          simp only [List.length_nil, List.drop_zero] at hb
                          have : ∀ (m : List Bool) (ys : List V), (∀ b ∈ m, b = false) → mskV m ys = [] := by
                            intro m
                            induction m with
                            | nil => intro ys _; cases ys <;> rfl
                            | cons b m ih =>
                              intro ys hb
                              cases hb b List.mem_cons_self
                              cases ys with
                              | nil => rfl
                              | cons y ys => exact ih ys fun b hb' => hb b (List.mem_cons_of_mem _ hb')
                          rw [List.nil_append, this _ ys hb, this _ [] hb]
                        | cons x xs =>
                          have := ih xs (by simpa using hb)
                          cases b <;> simp [mskV, this]
                    exact gen _ _ _ (by rw [← r.length]; exact hml)
                  refine ⟨?_, Zs A s2 σ, dd ++ dv, fun b q => ?_, ?_, args_ok R2 hsame r2 um hmk e2 hml, ?_⟩
                  · have := sameDs_len hsame
                    rw [List.length_append, List.length_map, ← this]
                    omega
                  · rcases q with q | q
                    · exact R2.dom b q
                    · obtain ⟨ys, q⟩ := R2.exc_lst q
                      rw [q]; simp
                  · rw [hmv]
                    exact mk_nodup R2 mk nd
                  · unfold spPost
                    rw [hmv]
                    split at h
                    · rename_i nw d outs e3
                      try simp only [e3]
                      split at h
                      · rename_i s3 e4
                        intro z H' fr ro
                        cases nw with
                        | false =>
                          obtain ⟨r5, o5⟩ := ro
                          have gb := back_go t.xn R2 nd mk fr o5 e4
                          exact h z H' ((g.trans gm).trans gb) (r5.weak fun b q => by
                            rcases q with q | q
                            · exact .inl q
                            · exact .inr (((back_rel t.xn (A' := A) R2 nd mk fr o5 e4 (fun _ h => h) (fun _ h => .inl h) fun b h => fr.2 b (R2.dom b h)).2 b).mp q))
                        | true =>
                          obtain ⟨p, rfl, hp, np, ow, o5⟩ := ro
                          have o6 : outsOk X.K (Zs A s2 σ) H' (mskV (Φ.mask f) xs) outs := outsOk_mono (fun b q => .inl q) o5
                          have gb := back_go t.xn R2 nd mk fr o6 e4
                          have hH' : H' p ≠ none := by
                            obtain ⟨ds', xs', _, q, _⟩ := ow
                            rw [q]; simp
                          obtain ⟨R3, ex⟩ := back_rel t.xn (A' := Apt A p) R2 nd mk fr (outsOk_mono (fun b q => (apt_zs b).mp q) o5) e4 (fun _ h => .inl h) (fun b q => by
                            rcases q with q | q
                            · exact .inl q
                            · exact .inr (by rw [q]; exact hp)) fun b q => by
                              rcases q with q | q
                              · exact fr.2 b (R2.dom b q)
                              · rw [q]; exact hH'
                          refine h _ H' ((g.trans gm).trans gb) ⟨p, rfl, (g.trans gm).none_of hp, R3, ?_, fun q => np (.inr ((ex p).mp q)), fun q => np (.inl q)⟩
                          obtain ⟨ds', xs', q1, q2, q3⟩ := ow
                          refine ⟨ds', xs', q1, q2, q3.weak fun b q => ?_⟩
                          rcases q with (q | q) | q
                          · exact .inl (.inl q)
                          · exact .inr q
                          · exact .inl (.inr ((ex b).mp q))
                      · exact h.elim
                    · rename_i cc args outs e3
                      try simp only [e3]
                      split at h
                      · rename_i s3 e4
                        intro cls dx H' fr o5 xr
                        have gb := back_go t.xn R2 nd mk fr o5 e4
                        refine h cls dx H' ((g.trans gm).trans gb) (t.xr _ _ _ _ _ _ _ _ xr (fun b o e _ => e) fun b q => ?_)
                        rcases q with q | q
                        · exact .inl (.inl q)
                        · exact .inl (.inr (((back_rel t.xn (A' := A) R2 nd mk fr o5 e4 (fun _ h => h) (fun _ h => .inl h) fun b h => fr.2 b (R2.dom b h)).2 b).mp q))
                      · exact h.elim
                    · exact h.elim
                · exact h.elim
              · exact h.elim
            · exact h.elim
          · exact h.elim
    · cases ck
end
end Mi

/-! Mi8: slices, and, or, conditional expressions, isinstance, methods, tests. -/
namespace Mi
open PySem PySem.Spec PyProof.Rows L2
section
variable {T : Tx} {Φ : Env} {Xn : XnT} {Xr : XrT} {X : Cx} {c : Cxt}
/-! ### slices -/
def SndO (T : Tx) (Φ : Env) (Xn : XnT) (Xr : XrT) (eo : Eo) : Prop := ∀ (X : Cx) (c : Cxt) (po : Option Expr), Okx X c → Okt X T c Φ Xn Xr → chkEo T c eo po = true → ∀ (W : WX), Takes X W → ∀ (A : Addr → Prop) (H0 : Hp) (s : Sl) (σ : L2.St) (H : Hp),
  Rel X.K Xn A H0 s σ H → ∀ Q : Option Int → Hp → Prop, OutO X.K Xn Xr A H0 s σ H W (evo Φ eo s) Q → ∃ t : TO, PO X po t ∧ t σ H Q
theorem sndo_no : SndO T Φ Xn Xr .no := by
  intro X c po O t ck W tk A H0 s σ H R Q h
  cases po with
  | some _ => simp [chkEo] at ck
  | none =>
    rw [evo] at h
    exact ⟨_, po_none, h _ (Go.refl R)⟩
theorem sndo_so {e : E} (he : SndE T Φ Xn Xr e) : SndO T Φ Xn Xr (.so e) := by
  intro X c po O t ck W tk A H0 s σ H R Q h
  cases po with
  | none => simp [chkEo] at ck
  | some x =>
    simp only [chkEo] at ck
    refine ⟨_, po_some pe_w, ?_⟩
    refine he X c x O t ck W tk A H0 s σ H R _ ?_
    rw [evo] at h
    cases ea : ev Φ e s with
    | no => rw [ea] at h; exact h.elim
    | ex cc args s1 => rw [ea] at h; exact fun cls dx H' g r => h cls dx H' g r
    | ok v s1 =>
      rw [ea] at h
      intro y H1 g1 r1
      split at h
      · rename_i q i s' e1
        cases e1
        obtain rfl := Rp.int_inv r1
        exact ⟨_, rfl, h _ g1⟩
      · exact h.elim
      · rename_i e1; cases e1
      · rename_i e1; cases e1
theorem wpO_mk {po : Option Expr} {σ : L2.St} {H : Hp} {Q : Option Int → Hp → Prop} : (∃ t : TO, PO X po t ∧ t σ H Q) → ∀ (P : TO), P = (fun σ H Q => ∃ t : TO, PO X po t ∧ t σ H Q) → P σ H Q := fun h P e => by rw [e]; exact h
theorem po_w {po : Option Expr} : PO X po (fun σ H Q => ∃ t : TO, PO X po t ∧ t σ H Q) := ⟨fun pins s σ H Q I ⟨t, p, q⟩ => p.run pins s σ H Q I q⟩
theorem snd_slc {a : E} {lo hi : Eo} (ha : SndE T Φ Xn Xr a) (hl : SndO T Φ Xn Xr lo) (hh : SndO T Φ Xn Xr hi) : SndE T Φ Xn Xr (.slc a lo hi) := by
  intro X c pe O t ck W tk A H0 s σ H R Q h
  cases pe <;> try (simp only [chkE, Bool.false_eq_true] at ck; done)
  rename_i l r pos
  cases r <;> try (simp only [chkE, Bool.false_eq_true] at ck; done)
  rename_i lo' hi' st p2
  cases st with
  | some _ => simp [chkE] at ck
  | none =>
    simp only [chkE, Bool.and_eq_true] at ck
    obtain ⟨⟨ca, cl⟩, ch⟩ := ck
    refine of_pe (pe_slice sl_m pe_w po_w po_w) ?_
    rw [ev] at h
    refine ha X c l O t ca W tk A H0 s σ H R _ ?_
    cases ea : ev Φ a s with
    | no => rw [ea] at h; exact h.elim
    | ex cc args s1 => rw [ea] at h; exact fun cls dx H' g r => h cls dx H' g r
    | ok v s1 =>
      rw [ea] at h
      dsimp only at h
      intro x H1 g1 r1
      refine hl X c lo' O t cl W tk A H0 s1 σ H1 g1.rel _ ?_
      cases el : evo Φ lo s1 with
      | no => rw [el] at h; exact h.elim
      | ex cc args s2 => rw [el] at h; exact fun cls dx H' g r => h cls dx H' (g1.trans g) r
      | ok o s2 =>
        rw [el] at h
        dsimp only at h
        intro H2 g2
        refine hh X c hi' O t ch W tk A H0 s2 σ H2 g2.rel _ ?_
        cases eh : evo Φ hi s2 with
        | no => rw [eh] at h; exact h.elim
        | ex cc args s3 => rw [eh] at h; exact fun cls dx H' g r => h cls dx H' ((g1.trans g2).trans g) r
        | ok o' s3 =>
          rw [eh] at h
          dsimp only at h
          intro H3 g3
          split at h
          · rename_i dx e1
            cases e3 : slcD dx o o' with
            | none => rw [e3] at h; exact h.elim
            | some z =>
              rw [e3] at h
              have g := (g1.trans g2).trans g3
              exact slc_sound (Hs := H) t.xn g.rel (fun p hp => g.none_of hp) e3 (get_ok g.rel ((r1.late.go g2).go g3) e1) (fin_of g h)
          · exact h.elim
/-! slices with the step -1 -/
theorem litO_ok {lo : Option Int} {po : Option Expr} (h : litO lo po = true) : ∃ t : TO, PO X po t ∧ ∀ (σ : L2.St) (H : Hp) (Q : Option Int → Hp → Prop), Q lo H → t σ H Q := by
  match lo, po, h with
  | none, none, _ => exact ⟨_, po_none, fun σ H Q q => q⟩
  | some i, some (.Constant (.int j) _ _), h =>
    obtain rfl : i = j := of_decide_eq_true h
    exact ⟨_, po_some pe_int, fun σ H Q q => ⟨_, rfl, q⟩⟩
def cutR (vs : List V) (lo hi : Option Int) : List V := (sliceRange (PySem.sliceBounds lo hi (some (-1)) vs.length).1 (PySem.sliceBounds lo hi (some (-1)) vs.length).2.1 (PySem.sliceBounds lo hi (some (-1)) vs.length).2.2).filterMap (vs[·]?)
theorem RpAll.fm {A : Addr → Prop} {K : PySem.W.Frag} {xs : List V} {ds : List D} (r : RpAll A K H xs ds) : ∀ ks : List Nat, RpAll A K H (ks.filterMap (xs[·]?)) (ks.filterMap (ds[·]?))
  | [] => .nil
  | k :: ks => by
    rw [List.filterMap_cons, List.filterMap_cons]
    cases e : ds[k]? with
    | none =>
      have : xs[k]? = none := by
        rw [List.getElem?_eq_none_iff] at e ⊢
        rw [r.length]
        exact e
      rw [this]
      exact r.fm ks
    | some d =>
      obtain ⟨v, e2, q⟩ := r.get e
      rw [e2]
      exact .cons q (r.fm ks)
theorem valsFm {xs : List V} {us : List Value} (r : Vals xs us) : ∀ ks : List Nat, Vals (ks.filterMap (xs[·]?)) (ks.filterMap (us[·]?))
  | [] => .nil
  | k :: ks => by
    rw [List.filterMap_cons, List.filterMap_cons]
    cases e : xs[k]? with
    | none =>
      have : us[k]? = none := by
        rw [List.getElem?_eq_none_iff] at e ⊢
        rw [← r.length]
        exact e
      rw [this]
      exact valsFm r ks
    | some v =>
      obtain ⟨u, e2, q⟩ := r.get e
      rw [e2]
      exact .cons q (valsFm r ks)
def tCutR (K : PySem.W.Frag) (lo hi : Option Int) (te : TE) : TE := fun σ H Q => te σ H fun x H1 => ∃ a xs, x = .ref a ∧ SqL K H1 a xs ∧ ∀ p, H1 p = none → Q (.ref p) (upd H1 p (.lst (cutR xs lo hi)))
theorem pe_cutR {e : Expr} {te : TE} {lo hi : Option Int} {l' h' : Option Expr} {k : Nat} {p1 p2 p3 pos : Pos} (cl : litO lo l' = true) (ch : litO hi h' = true) (he : PE X e te) : PE X (.Subscript e (.Slice l' h' (some (.UnaryOp .USub (.Constant (.int 1) k p1) p2)) p3) pos) (tCutR X.K lo hi te) := by
  obtain ⟨tl, pl, ql⟩ := litO_ok (X := X) cl
  obtain ⟨th, ph, qh⟩ := litO_ok (X := X) ch
  refine ⟨fun pins s σ H Q I h => ?_⟩
  refine Subscript_ (thn (he.run pins s σ H _ I h) fun v s1 ⟨x, H1, I1, r1, q1⟩ => ?_)
  obtain ⟨a, xs, rfl, hx, q⟩ := q1
  cases r1
  have hs : PO X (some (.UnaryOp .USub (.Constant (.int 1) k p1) p2)) (tPart (tUn (rU fun i => .int (-i)) (tC (.int 1)))) := po_some (pe_un un_neg pe_int)
  refine wpAny_Slice (thn (pl.run pins s1 σ H1 (fun o H2 => o = lo ∧ H2 = H1) I1 (ql _ _ _ ⟨rfl, rfl⟩)) fun vl s2 ⟨l, H2, I2, il, el, e2⟩ => ?_)
  subst el e2
  refine thn (ph.run pins s2 σ H2 (fun o H3 => o = hi ∧ H3 = H2) I2 (qh _ _ _ ⟨rfl, rfl⟩)) fun vh s3 ⟨u, H3, I3, ih, eh, e3⟩ => ?_
  subst eh e3
  refine thn (hs.run pins s3 σ H3 (fun o H4 => o = some (-1) ∧ H4 = H3) I3 ⟨1, rfl, -1, rfl, rfl, rfl⟩) fun vs s4 ⟨o, H4, I4, is, eo, e4⟩ => ?_
  subst eo e4
  have I5 : Inv X pins σ H4 { s4 with heap := s4.heap.push { cls := .type "slice", data := .fields #[vl, vh, vs] } } := I4.kept (t' := s4.toks) fun _ _ q => Heap.get?_push_of_some _ q
  obtain ⟨its, r, ht, hz⟩ := I5.list hx
  have hlen := r.length
  show wpAny (model X.prog X.w) X.A (subscriptTail e (.Slice l' h' (some (.UnaryOp .USub (.Constant (.int 1) k p1) p2)) p3) (.ref a) (.ref s4.heap.objs.size)) (EP X pins σ Q) X.xe { s4 with heap := s4.heap.push { cls := .type "slice", data := .fields #[vl, vh, vs] } }
  refine tail_any (ops := [.ref a, .ref s4.heap.objs.size]) ht.isList.typeIs (PySem.slot_list_getitem.lookup) ?_ (by with_unfolding_all rfl)
  refine wpAny_getItem_list_slice ht.isList (Heap.IsSliceOf.new _ vl vh vs) il ih is (by decide) ?_ (by rw [List.size_toArray]; omega)
  have ep : slicePick its.toArray l u (some (-1)) = ((sliceRange (PySem.sliceBounds l u (some (-1)) xs.length).1 (PySem.sliceBounds l u (some (-1)) xs.length).2.1 (PySem.sliceBounds l u (some (-1)) xs.length).2.2).filterMap (its[·]?)).toArray := by
    unfold slicePick
    rw [List.size_toArray, hlen]
    simp only [List.getElem?_toArray]
  have le : (cutR xs l u).length ≤ xs.length := by
    have h1 := slicePick_size_le its.toArray l u (some (-1))
    rw [ep, List.size_toArray, ← (valsFm r _).length, List.size_toArray, ← hlen] at h1
    exact h1
  rw [ep]
  refine ⟨.ref _, _, I5.laid (t' := s4.toks) (o := .lst (cutR xs l u)) (fun _ _ q => Heap.get?_push_of_some _ q) (Nat.le_refl _) ?_, rfl, q _ (I5.hok.fresh (Nat.le_refl _))⟩
  exact ⟨by omega, _, 0, valsFm r _, Heap.get?_push_size _ rfl⟩
theorem rev_inv {a : E} {lo hi : Option Int} {pe : Expr} (ck : chkE T c (.rev a lo hi) pe = true) : ∃ l l' h' k p1 p2 p3 pos, pe = .Subscript l (.Slice l' h' (some (.UnaryOp .USub (.Constant (.int 1) k p1) p2)) p3) pos ∧ chkE T c a l = true ∧ litO lo l' = true ∧ litO hi h' = true := by
  cases pe <;> try (simp only [chkE, Bool.false_eq_true] at ck; done)
  rename_i l r pos
  cases r <;> try (simp only [chkE, Bool.false_eq_true] at ck; done)
  rename_i l' h' st p3
  cases st with
  | none => simp [chkE] at ck
  | some st =>
    cases st <;> try (simp [chkE] at ck; done)
    rename_i o x p2
    cases o <;> try (simp [chkE] at ck; done)
    cases x <;> try (simp [chkE] at ck; done)
    rename_i cc k p1
    cases cc <;> try (simp [chkE] at ck; done)
    rename_i j
    by_cases hj : j = 1
    · subst hj
      simp only [chkE, Bool.and_eq_true] at ck
      exact ⟨_, _, _, _, _, _, _, _, rfl, ck.1.1, ck.1.2, ck.2⟩
    · simp [chkE, hj] at ck
theorem snd_rev {a : E} {lo hi : Option Int} (ha : SndE T Φ Xn Xr a) : SndE T Φ Xn Xr (.rev a lo hi) := by
  intro X c pe O t ck W tk A H0 s σ H R Q h
  obtain ⟨l, l', h', k, p1, p2, p3, pos, rfl, ca, cl, ch⟩ := rev_inv ck
  refine of_pe (pe_cutR cl ch pe_w) ?_
  rw [ev] at h
  refine ha X c l O t ca W tk A H0 s σ H R _ ?_
  cases ea : ev Φ a s with
  | no => rw [ea] at h; exact h.elim
  | ex cc args s1 => rw [ea] at h; exact fun cls dx H' g r => h cls dx H' g r
  | ok v s1 =>
    rw [ea] at h
    dsimp only at h
    intro x H1 g1 r1
    split at h
    · rename_i ds e1
      obtain ⟨b, xs, rfl, h1, q1⟩ := (get_ok g1.rel r1.late e1).lst_inv
      refine ⟨b, xs, rfl, SqL.of h1, fun p hp => ?_⟩
      have q2 : RpAll (Zs A s1 σ) X.K H1 (cutR xs lo hi) (revD ds lo hi) := by
        unfold cutR revD
        rw [q1.length]
        exact q1.fm _
      obtain ⟨g, r⟩ := new_lst t.xn g1.rel (g1.none_of hp) hp q2
      exact fin_of g1 h _ _ g r
    · exact h.elim
/-! ### and, or -/
def SndB (T : Tx) (Φ : Env) (Xn : XnT) (Xr : XrT) (es : Es) (op : BoolOp) (f : Es → Sl → Mi.R Vl) : Prop := ∀ (X : Cx) (c : Cxt) (pes : List Expr), Okx X c → Okt X T c Φ Xn Xr → chkEs T c es pes = true → ∀ (W : WX), Takes X W → ∀ (A : Addr → Prop) (H0 : Hp) (s : Sl) (σ : L2.St) (H : Hp),
  Rel X.K Xn A H0 s σ H → ∀ (Q : VK) (pos : Pos), Out X.K Xn Xr A H0 s σ H W (f es s) Q → wpE X (.BoolOp op pes pos) σ H Q
def AllE (P : E → Prop) : Es → Prop
  | .nil => True
  | .cons e es => P e ∧ AllE P es
theorem snd_ands : ∀ {es : Es}, AllE (SndE T Φ Xn Xr) es → SndB T Φ Xn Xr es .And (evAnd Φ)
  | .nil, _ => by
    intro X c pes O t ck W tk A H0 s σ H R Q pos h
    rw [evAnd] at h
    exact h.elim
  | .cons e .nil, he => by
    intro X c pes O t ck W tk A H0 s σ H R Q pos h
    cases pes with
    | nil => simp [chkEs] at ck
    | cons x xs =>
      simp only [chkEs, Bool.and_eq_true] at ck
      cases xs with
      | cons _ _ => simp [chkEs] at ck
      | nil =>
        refine of_pe (pe_one pe_w) ?_
        refine one O t he.1 ck.1 tk R (f := fun v s1 => match v with
          | .dt (.bool b) => .ok (.dt (.bool b)) s1
          | _ => .no) (Q := Q) ?_ fun v s1 x H1 g r h => ?_
        · rw [evAnd] at h
          cases ea : ev Φ e s with
          | no => rw [ea] at h; exact h
          | ex cc args s1 => rw [ea] at h; exact h
          | ok v s1 =>
            rw [ea] at h
            dsimp only at h ⊢
            split at h
            · rename_i q b s' e1; cases e1; exact h
            · exact h.elim
            · rename_i e1; cases e1
            · rename_i e1; cases e1
        · split at h
          · exact h _ H1 g r
          · exact h.elim
  | .cons e (.cons e2 es), he => by
    intro X c pes O t ck W tk A H0 s σ H R Q pos h
    cases pes with
    | nil => simp [chkEs] at ck
    | cons x xs =>
      cases xs with
      | nil => simp [chkEs] at ck
      | cons y ys =>
        simp only [chkEs, Bool.and_eq_true] at ck
        refine of_pe (pe_and pe_w pe_w) ?_
        refine he.1 X c x O t ck.1 W tk A H0 s σ H R _ ?_
        rw [evAnd] at h
        cases ea : ev Φ e s with
        | no => rw [ea] at h; exact h.elim
        | ex cc args s1 => rw [ea] at h; exact fun cls dx H' g r => h cls dx H' g r
        | ok v s1 =>
          rw [ea] at h
          try dsimp only at h
          intro z H1 g1 r1
          split at h
          · rename_i q s' e1
            cases e1
            obtain rfl := Rp.bl_inv r1
            refine ⟨true, rfl, ?_⟩
            rw [if_pos rfl]
            refine snd_ands (es := .cons e2 es) he.2 X c (y :: ys) O t (by simp only [chkEs, Bool.and_eq_true]; exact ck.2) W tk A H0 _ σ H1 g1.rel Q pos (h.cont g1)
          · rename_i q s' e1
            cases e1
            obtain rfl := Rp.bl_inv r1
            refine ⟨false, rfl, ?_⟩
            rw [if_neg Bool.false_ne_true]
            exact h _ H1 g1 r1
          · exact h.elim
          · rename_i e1; cases e1
          · rename_i e1; cases e1
        · intro z; cases z
theorem snd_ors : ∀ {es : Es}, AllE (SndE T Φ Xn Xr) es → SndB T Φ Xn Xr es .Or (evOr Φ)
  | .nil, _ => by
    intro X c pes O t ck W tk A H0 s σ H R Q pos h
    rw [evOr] at h
    exact h.elim
  | .cons e .nil, he => by
    intro X c pes O t ck W tk A H0 s σ H R Q pos h
    cases pes with
    | nil => simp [chkEs] at ck
    | cons x xs =>
      simp only [chkEs, Bool.and_eq_true] at ck
      cases xs with
      | cons _ _ => simp [chkEs] at ck
      | nil =>
        refine of_pe (pe_one pe_w) ?_
        refine one O t he.1 ck.1 tk R (f := fun v s1 => match v with
          | .dt (.bool b) => .ok (.dt (.bool b)) s1
          | _ => .no) (Q := Q) ?_ fun v s1 x H1 g r h => ?_
        · rw [evOr] at h
          cases ea : ev Φ e s with
          | no => rw [ea] at h; exact h
          | ex cc args s1 => rw [ea] at h; exact h
          | ok v s1 =>
            rw [ea] at h
            dsimp only at h ⊢
            split at h
            · rename_i q b s' e1; cases e1; exact h
            · exact h.elim
            · rename_i e1; cases e1
            · rename_i e1; cases e1
        · split at h
          · exact h _ H1 g r
          · exact h.elim
  | .cons e (.cons e2 es), he => by
    intro X c pes O t ck W tk A H0 s σ H R Q pos h
    cases pes with
    | nil => simp [chkEs] at ck
    | cons x xs =>
      cases xs with
      | nil => simp [chkEs] at ck
      | cons y ys =>
        simp only [chkEs, Bool.and_eq_true] at ck
        refine of_pe (pe_or pe_w pe_w) ?_
        refine he.1 X c x O t ck.1 W tk A H0 s σ H R _ ?_
        rw [evOr] at h
        cases ea : ev Φ e s with
        | no => rw [ea] at h; exact h.elim
        | ex cc args s1 => rw [ea] at h; exact fun cls dx H' g r => h cls dx H' g r
        | ok v s1 =>
          rw [ea] at h
          try dsimp only at h
          intro z H1 g1 r1
          split at h
          · rename_i q s' e1
            cases e1
            obtain rfl := Rp.bl_inv r1
            refine ⟨false, rfl, ?_⟩
            rw [if_neg Bool.false_ne_true]
            refine snd_ors (es := .cons e2 es) he.2 X c (y :: ys) O t (by simp only [chkEs, Bool.and_eq_true]; exact ck.2) W tk A H0 _ σ H1 g1.rel Q pos (h.cont g1)
          · rename_i q s' e1
            cases e1
            obtain rfl := Rp.bl_inv r1
            refine ⟨true, rfl, ?_⟩
            rw [if_pos rfl]
            exact h _ H1 g1 r1
          · exact h.elim
          · rename_i e1; cases e1
          · rename_i e1; cases e1
        · intro z; cases z
theorem snd_and {es : Es} (he : AllE (SndE T Φ Xn Xr) es) : SndE T Φ Xn Xr (.and es) := by
  intro X c pe O t ck W tk A H0 s σ H R Q h
  cases pe <;> try (simp only [chkE, Bool.false_eq_true] at ck; done)
  rename_i o xs pos
  simp only [chkE, Bool.and_eq_true, decide_eq_true_eq] at ck
  obtain ⟨⟨rfl, ck⟩, _⟩ := ck
  rw [ev] at h
  exact snd_ands he X c xs O t ck W tk A H0 s σ H R Q pos h
theorem snd_or {es : Es} (he : AllE (SndE T Φ Xn Xr) es) : SndE T Φ Xn Xr (.or es) := by
  intro X c pe O t ck W tk A H0 s σ H R Q h
  cases pe <;> try (simp only [chkE, Bool.false_eq_true] at ck; done)
  rename_i o xs pos
  simp only [chkE, Bool.and_eq_true, decide_eq_true_eq] at ck
  obtain ⟨⟨rfl, ck⟩, _⟩ := ck
  rw [ev] at h
  exact snd_ors he X c xs O t ck W tk A H0 s σ H R Q pos h
/-! ### isinstance -/
def tyT : Ty → String
  | .int => "int" | .bool => "bool" | .tuple => "tuple" | .list => "list" | .str => "str"
theorem rt_ty {A : Addr → Prop} {K : PySem.W.Frag} {H : Hp} {x : V} {d : D} {ty : Ty} {b : Bool} (r : Rt A K H x d) (e : isTD d ty = some b) : ∃ a, TyX K H x (.type a) ∧ PySem.W.kitOne K (.type a) (.type (tyT ty)) = some b := by
  have rp : ∀ {x : V}, Rp A K H x d → ∃ a, TyX K H x (.type a) ∧ PySem.W.kitOne K (.type a) (.type (tyT ty)) = some b := fun {x} r => by
    cases r with
    | non => exact ⟨_, .base .non, kit_ty (by cases ty <;> (simp only [isTD, Option.some.injEq] at e; subst e; decide +kernel))⟩
    | bl v => exact ⟨_, .base (.bl _), kit_ty (by cases ty <;> (simp only [isTD, Option.some.injEq] at e; subst e; decide +kernel))⟩
    | int v => exact ⟨_, .base (.int _), kit_ty (by cases ty <;> (simp only [isTD, Option.some.injEq] at e; subst e; decide +kernel))⟩
    | str v => exact ⟨_, .base (.str _), kit_ty (by cases ty <;> (simp only [isTD, Option.some.injEq] at e; subst e; decide +kernel))⟩
    | lst h1 h2 h3 => exact ⟨_, .base (.lst h1), kit_ty (by cases ty <;> (simp only [isTD, Option.some.injEq] at e; subst e; decide +kernel))⟩
    | frz h1 h2 h3 => simp [isTD, frzD] at e
    | frzK h1 h2 => simp [isTD, frzD] at e
    | tup h1 h2 h3 =>
      rcases h1 with h1 | ⟨o, h1⟩
      · exact ⟨_, .base (.tup h1), kit_ty (by cases ty <;> (simp only [isTD, Option.some.injEq] at e; subst e; decide +kernel))⟩
      · exact ⟨_, .fTuple h1, kit_ty (by cases ty <;> (simp only [isTD, Option.some.injEq] at e; subst e; decide +kernel))⟩
    | tupK h1 h2 =>
      obtain ⟨o, its, n, k1, k2, _⟩ := h1
      exact ⟨_, .kTuple k1 k2, kit_ty (by cases ty <;> (simp only [isTD, Option.some.injEq] at e; subst e; decide +kernel))⟩
  rcases r with r | ⟨a, rfl, ds, xs, rfl, h1, h2⟩
  · exact rp r
  · exact ⟨_, .base (.lst h1), kit_ty (by cases ty <;> (simp only [isTD, Option.some.injEq] at e; subst e; decide +kernel))⟩
theorem snd_isT {e : E} {ty : Ty} (ha : SndE T Φ Xn Xr e) : SndE T Φ Xn Xr (.isT e ty) := by
  intro X c pe O t ck W tk A H0 s σ H R Q h
  cases pe <;> try (simp only [chkE, Bool.false_eq_true] at ck; done)
  rename_i fe as kws pos
  cases fe <;> try (simp only [chkE, Bool.false_eq_true] at ck; done)
  rename_i f p
  match as, kws, ck with
  | [x, tx], [], ck =>
    cases tx <;> try (simp only [chkE, Bool.false_eq_true] at ck; done)
    rename_i tn tp
    simp only [chkE, Bool.and_eq_true, Bool.not_eq_true', decide_eq_true_eq] at ck
    obtain ⟨⟨⟨⟨⟨hc, rfl⟩, hg⟩, ca⟩, rfl⟩, hg2⟩ := ck
    obtain ⟨g1, g2, g3⟩ := O.gl hg
    obtain ⟨k1, k2, k3⟩ := O.gl hg2
    have hm := t.blt _ (show ("isinstance" : Str) ∈ blts by decide +kernel)
    have hm2 := t.blt _ (show tyS ty ∈ blts by cases ty <;> decide +kernel)
    have hv : bootBuiltins (tyS ty) = some (.type (tyT ty)) := by cases ty <;> decide +kernel
    refine of_pe (pe_callB call_isi g1 hm (by decide +kernel) (pa_cons pe_w (pa_cons (pe_bltn (v := .ty (tyT ty)) k1 hm2 hv rfl k3 k2) pa_nil) (nostar (chk_noStar ca))) g3 g2 (nostar (chk_noStar ca))) ?_
    refine one O t ha ca tk R (f := fun x s1 => match x.get s1 with
      | some d => ofO ((isTD d ty).map fun b => .dt (.bool b)) s1
      | none => .no) (Q := Q) (by rw [ev] at h; exact h) fun v s1 x H1 g r h => ?_
    split at h
    · rename_i d e1
      cases e2 : isTD d ty with
      | none => rw [e2] at h; exact h.elim
      | some b =>
        rw [e2] at h
        obtain ⟨a, h1, h2⟩ := rt_ty (get_ok g.rel r.late e1) e2
        exact ⟨_, _, _, _, b, rfl, .ty _, h1, h2, h _ H1 g (.bl _)⟩
    · exact h.elim
  | [], _, ck => simp [chkE] at ck
  | [_], _, ck => simp [chkE] at ck
  | _ :: _ :: _ :: _, _, ck => simp [chkE] at ck
  | [_, tx], _ :: _, ck => cases tx <;> simp [chkE] at ck
/-! ### a conditional expression waits for tests -/
end
end Mi

/-! Mi9: methods, tests, what is walked, comprehensions. -/
namespace Mi
open PySem PySem.Spec PyProof.Rows L2
section
variable {T : Tx} {Φ : Env} {Xn : XnT} {Xr : XrT} {X : Cx} {c : Cxt}
theorem chks_all {pos : Pos} {env : PySem.Env} : ∀ {es : Es} {pes : List Expr}, chkEs T c es pes = true → (backTo pos (starEach pes env)).all (fun x => !x.1) = true
  | .nil, [], _ => rfl
  | .cons e es, x :: xs, h => by
    simp only [chkEs, Bool.and_eq_true] at h
    rw [nostar (chk_noStar h.1)]
    have ih := chks_all (pos := pos) (env := env) h.2
    unfold backTo at ih ⊢
    simpa using ih
  | .nil, _ :: _, h => by simp [chkEs] at h
  | .cons _ _, [], h => by simp [chkEs] at h
theorem snd_mth {m : Mth} {i : Nat} {es : Es} (hes : SndEs T Φ Xn Xr es) : SndE T Φ Xn Xr (.mth m i es) := by
  intro X c pe O t ck W tk A H0 s σ H R Q h
  cases pe <;> try (simp only [chkE, Bool.false_eq_true] at ck; done)
  rename_i fe as kws pos
  cases fe <;> try (simp only [chkE, Bool.false_eq_true] at ck; done)
  rename_i o a ap
  cases o <;> try (simp only [chkE, Bool.false_eq_true] at ck; done)
  rename_i x p
  match kws, ck with
  | _ :: _, ck => simp [chkE] at ck
  | [], ck =>
    simp only [chkE, Bool.and_eq_true, decide_eq_true_eq] at ck
    obtain ⟨⟨⟨⟨⟨⟨rfl, hN⟩, hv⟩, hes'⟩, hem⟩, hln⟩, hlen⟩ := ck
    obtain ⟨v1, v2, v3⟩ := O.vis hv
    have pv : PE X (.Name x p) (tVar i) := pe_var (i := i) (by rw [O.N]; exact hN) v1 v2 v3
    rw [ev] at h
    split at h
    · rename_i p0 d0 hs0
      obtain ⟨a0, e1, ⟨ds0, xs0, _, h1, _⟩, _⟩ := R.own i p0 d0 hs0
      have ty : tyV X.K "list" (V.ref a0) H := Or.inl ⟨rfl, _, SqL.of h1⟩
      cases as with
      | nil =>
        cases es with
        | cons _ _ => simp [chkEs] at hes'
        | nil =>
          rw [evs] at h
          simp only [escs] at h
          have fin0 : wpM X (mthI m) (.ref a0) [] H Q := by
            split at h
            · rename_i p1 ys hs1
              split at h
              · rename_i v zs e3
                exact mth_sound (Hs := H) t.xn R hs1 e1 e3 .nil fun z H' g3 r3 => h z H' g3 r3
              · exact h.elim
            · exact h.elim
          cases m <;> simp only [List.isEmpty_nil, beq_iff_eq, Bool.true_eq_false, Bool.false_eq_true, reduceCtorEq] at hem
          exact of_pe (pe_bm0 PySem.F.plainAttrs_list PySem.F.slot_list_pop PySem.F.type_list_pop mr_w pv rfl hln) ⟨_, e1, ty, fin0⟩
      | cons e as =>
        have fin : wpA X (e :: as) σ H fun vs H1 => wpM X (mthI m) (.ref a0) vs H1 Q := by
          refine args O t hes hes' tk R (f := fun vs s1 => match escs s1 vs with
            | some (ds, s2) => match s2[i]? with
              | some (.own p (.list xs)) => match mthD m xs ds with
                | some (v, ys) => .ok (.dt v) (s2.set i (.own p (.list ys)))
                | none => .no
              | _ => .no
            | none => .no) (Q := Q) h fun vs s1 xs H1 g r h => ?_
          split at h
          · rename_i ds s2 e2
            split at h
            · rename_i p1 ys hs1
              split at h
              · rename_i v zs e3
                obtain ⟨g2, r2⟩ := escs_ok g.rel r e2
                exact mth_sound (Hs := H) t.xn g2.rel hs1 e1 e3 r2 fun z H' g3 r3 => h z H' ((g.trans g2).trans g3) r3
              · exact h.elim
            · exact h.elim
          · exact h.elim
        have he : starEach (e :: as) X.env = (false, eval e X.env) :: starEach as X.env := by
          cases es with
          | nil => simp [chkEs] at hes'
          | cons e' es' =>
            simp only [chkEs, Bool.and_eq_true] at hes'
            exact nostar (chk_noStar hes'.1)
        have hpl : (backTo pos (starEach as X.env)).any (·.1) = false := by
          cases es with
          | nil => simp [chkEs] at hes'
          | cons e' es' =>
            simp only [chkEs, Bool.and_eq_true] at hes'
            exact chks_plain hes'.2
        have hfew : ((backTo pos (starEach (e :: as) X.env)).all (fun x => !x.1) && (backToKw pos (keywordEach [] X.env)).all (fun x => x.1.isSome)
          && decide ((e :: as).length + ([] : List Keyword).length + (if ([] : List Keyword).isEmpty then 0 else 1) < 30)) = true := by
          rw [chks_all hes']
          simpa [keywordEach, backToKw] using hlen
        cases m <;> simp only [List.isEmpty_cons, beq_iff_eq, Bool.true_eq_false, Bool.false_eq_true, reduceCtorEq] at hem
        · exact of_pe (pe_bm PySem.F.plainAttrs_list PySem.F.slot_list_append PySem.F.type_list_append mr_w pv pa_w rfl hfew hln he hpl) ⟨_, e1, ty, fin⟩
        · exact of_pe (pe_bm PySem.F.plainAttrs_list PySem.F.slot_list_extend PySem.F.type_list_extend mr_w pv pa_w rfl hfew hln he hpl) ⟨_, e1, ty, fin⟩
        · exact of_pe (pe_bm PySem.F.plainAttrs_list PySem.F.slot_list_pop PySem.F.type_list_pop mr_w pv pa_w rfl hfew hln he hpl) ⟨_, e1, ty, fin⟩
        · exact of_pe (pe_bm PySem.F.plainAttrs_list PySem.F.slot_list_insert PySem.F.type_list_insert mr_w pv pa_w rfl hfew hln he hpl) ⟨_, e1, ty, fin⟩
        · exact of_pe (pe_bm PySem.F.plainAttrs_list PySem.F.slot_list_count PySem.F.type_list_count mr_w pv pa_w rfl hfew hln he hpl) ⟨_, e1, ty, fin⟩
    · exact h.elim
theorem base_plain {o : Expr} {nm : Str} {env : PySem.Env} {v : Sem Value} (h : plainB o = true) : attributeBase o nm env v = v := by
  cases o with
  | Call f as kws pos =>
    cases as with
    | nil => cases h
    | cons a as => cases f <;> rfl
  | _ => rfl
theorem snd_tx {m : Tm} {a b : E} (ha : SndE T Φ Xn Xr a) (hb : SndE T Φ Xn Xr b) : SndE T Φ Xn Xr (.tx m a b) := by
  intro X c pe O t ck W tk A H0 s σ H R Q h
  cases pe <;> try (simp only [chkE, Bool.false_eq_true] at ck; done)
  rename_i fe as kws pos
  cases fe <;> try (simp only [chkE, Bool.false_eq_true] at ck; done)
  rename_i o nm ap
  match as, kws, ck with
  | [x], [], ck =>
    simp only [chkE, Bool.and_eq_true, decide_eq_true_eq] at ck
    obtain ⟨⟨⟨⟨rfl, ca⟩, pb⟩, cb⟩, hln⟩ := ck
    have st := nostar (env := X.env) (es := []) (chk_noStar cb)
    have fin : (fun σ H Q => wpE X o σ H fun x' H1 => (∃ z, x' = .str z) ∧ wpE X x σ H1 fun y H2 => rTx X.K m x' [y] H2 Q) σ H Q := by
      dsimp only
      refine ha X c o O t ca W tk A H0 s σ H R _ ?_
      rw [ev] at h
      cases ea : ev Φ a s with
      | no => rw [ea] at h; exact h.elim
      | ex cc args s1 => rw [ea] at h; exact fun cls dx H' g r => h cls dx H' g r
      | ok v s1 =>
        rw [ea] at h
        cases v with
        | nw d => exact h.elim
        | br i => exact h.elim
        | dt d =>
          cases d with
          | str z =>
            dsimp only at h
            intro x' H1 g r
            obtain rfl := Rp.str_inv r
            refine ⟨⟨z, rfl⟩, ?_⟩
            refine hb X c x O t cb W tk A H0 s1 σ H1 g.rel _ ?_
            cases eb : ev Φ b s1 with
            | no => rw [eb] at h; exact h.elim
            | ex cc args s2 => rw [eb] at h; exact fun cls dx H' g' r => h cls dx H' (g.trans g') r
            | ok w s2 =>
              rw [eb] at h
              dsimp only at h
              intro y' H2 g2 r2
              split at h
              · rename_i d2 e1
                cases e3 : txD m z d2 with
                | none => rw [e3] at h; exact h.elim
                | some u =>
                  rw [e3] at h
                  have gg := g.trans g2
                  exact tx_sound (Hs := H) t.xn gg.rel (fun p hp => gg.none_of hp) e3 (get_ok gg.rel r2.late e1) (fin_of gg h)
              · exact h.elim
          | _ => exact h.elim
    cases m
    · exact of_pe (pe_m1 PySem.F.slot_str_split PySem.F.type_str_split mt_split pe_w pe_w st (base_plain pb) hln) fin
    · exact of_pe (pe_m1 PySem.F.slot_str_join PySem.F.type_str_join mt_join pe_w pe_w st (base_plain pb) hln) fin
    · exact of_pe (pe_m1 PySem.F.slot_str_partition PySem.F.type_str_partition mt_partition pe_w pe_w st (base_plain pb) hln) fin
    · exact of_pe (pe_m1 PySem.F.slot_str_find PySem.F.type_str_find mt_find pe_w pe_w st (base_plain pb) hln) fin
    · exact of_pe (pe_m1 PySem.F.slot_str_zfill PySem.F.type_str_zfill mt_zfill pe_w pe_w st (base_plain pb) hln) fin
  | [], _, ck => simp [chkE] at ck
  | _ :: _ :: _, _, ck => simp [chkE] at ck
  | [_], _ :: _, ck => simp [chkE] at ck
/-! ### tests -/
def SndT (T : Tx) (Φ : Env) (Xn : XnT) (Xr : XrT) (e : E) : Prop := ∀ (X : Cx) (c : Cxt) (pe : Expr), Okx X c → Okt X T c Φ Xn Xr → chkE T c e pe = true → ∀ (W : WX), Takes X W → ∀ (A : Addr → Prop) (H0 : Hp) (s : Sl) (σ : L2.St) (H : Hp),
  Rel X.K Xn A H0 s σ H → (∀ Q : Bool → Hp → Prop, OutB X.K Xn Xr A H0 s σ H W (ev Φ e s) Q → wpT X pe σ H Q)
theorem OutB.out {K : PySem.W.Frag} {A : Addr → Prop} {H0 : Hp} {s : Sl} {σ : L2.St} {H : Hp} {W : WX} {r : Mi.R Vl} {Q : Bool → Hp → Prop} (h : OutB K Xn Xr A H0 s σ H W r Q) : Out K Xn Xr A H0 s σ H W r (fun x H' => ∃ b, x = .bl b ∧ Q b H') := by
  cases r with
  | no => exact h
  | ex c args s' => exact h
  | ok v s' =>
    intro x H' g r
    unfold OutB at h
    split at h
    · rename_i b s'' e
      cases e
      exact ⟨b, Rp.bl_inv r, h H' g⟩
    · exact h.elim
    · rename_i e; cases e
    · exact h.elim
theorem tst_plain {e : E} (he : SndE T Φ Xn Xr e) (hp : ∀ (T : Tx) (c : Cxt) pe, chkE T c e pe = true → plainT pe = true) : SndT T Φ Xn Xr e := by
  intro X c pe O t ck W tk A H0 s σ H R Q h
  have p := hp T c pe ck
  refine of_pt (pt_val pe_w (fun whole => ?_)) ?_
  · cases pe <;> first | rfl | (cases p; done) | skip
    rename_i o x pos
    cases o <;> first | rfl | (cases p; done)
  · exact he X c pe O t ck W tk A H0 s σ H R _ h.out
theorem tst_not {a : E} (ha : SndT T Φ Xn Xr a) : SndT T Φ Xn Xr (.not a) := by
  intro X c pe O t ck W tk A H0 s σ H R Q h
  cases pe <;> simp only [chkE, Bool.false_eq_true] at ck
  rename_i o x pos
  simp only [Bool.and_eq_true, decide_eq_true_eq] at ck
  obtain ⟨rfl, ca⟩ := ck
  refine of_pt (pt_not pt_w) ?_
  refine ha X c x O t ca W tk A H0 s σ H R _ ?_
  rw [ev] at h
  cases ea : ev Φ a s with
  | no => rw [ea] at h; exact h.elim
  | ex cc args s1 => rw [ea] at h; exact h
  | ok v s1 =>
    rw [ea] at h
    dsimp only at h
    split at h
    · exact h
    · exact h.elim
theorem tst_cmp {op : COp} {a b : E} (ha : SndE T Φ Xn Xr a) (hb : SndE T Φ Xn Xr b) : SndT T Φ Xn Xr (.cmp op a b) := by
  intro X c pe O t ck W tk A H0 s σ H R Q h
  cases pe <;> try (simp only [chkE, Bool.false_eq_true] at ck; done)
  rename_i l os rs pos
  match os, rs, ck with
  | [o], [r], ck =>
    simp only [chkE, Bool.and_eq_true, decide_eq_true_eq, Bool.not_eq_true'] at ck
    obtain ⟨⟨⟨rfl, ca⟩, cb⟩, cm⟩ := ck
    refine of_pt (pt_cmpR or_w pe_w pe_w cm) ?_
    refine two O t ha hb ca cb tk R (f := fun x y s2 => match x.get s2, y.get s2 with
          | some dx, some dy => ofO ((cmpD op dx dy).map fun b => .dt (.bool b)) s2
          | _, _ => .no) (Q := fun x H' => ∃ b, x = .bl b ∧ Q b H') (by have h := h.out; rw [ev] at h; exact h) fun v w s2 x y H2 g r1 r2 h => ?_
    split at h
    · rename_i dx dy e1 e2
      cases e3 : cmpD op dx dy with
      | none => rw [e3] at h; exact h.elim
      | some z =>
        rw [e3] at h
        exact cmp_sound g.rel O.hu e3 (get_ok g.rel r1 e1) (get_ok g.rel r2 e2) (h _ H2 g (.bl _))
    · exact h.elim
  | [], _, ck => simp [chkE] at ck
  | _ :: _ :: _, _, ck => simp [chkE] at ck
  | [_], [], ck => simp [chkE] at ck
  | [_], _ :: _ :: _, ck => simp [chkE] at ck
def wpW (X : Cx) (e : Expr) : TT := fun σ H Q => ∀ (whole : Sem Value) (pins : List (Addr × Obj)) (s : Shared), Inv X pins σ H s → wpAny (model X.prog X.w) X.A (isTrue e X.env whole) (TP X pins σ Q) X.xe s
theorem pw_w {e : Expr} : PW X e (wpW X e) := ⟨fun whole pins s _ _ _ I h => h whole pins s I⟩
theorem of_pw {e : Expr} {t : TT} (h : PW X e t) {σ : L2.St} {H : Hp} {Q : Bool → Hp → Prop} (q : t σ H Q) : wpW X e σ H Q := fun whole pins s I => h.run whole pins s σ H Q I q
def SndW (T : Tx) (Φ : Env) (Xn : XnT) (Xr : XrT) (es : Es) (op : BoolOp) (f : Es → Sl → Mi.R Vl) : Prop := ∀ (X : Cx) (c : Cxt) (pes : List Expr), Okx X c → Okt X T c Φ Xn Xr → chkEs T c es pes = true → ∀ (W : WX), Takes X W → ∀ (A : Addr → Prop) (H0 : Hp) (s : Sl) (σ : L2.St) (H : Hp),
  Rel X.K Xn A H0 s σ H → ∀ (Q : Bool → Hp → Prop) (pos : Pos), OutB X.K Xn Xr A H0 s σ H W (f es s) Q → wpW X (.BoolOp op pes pos) σ H Q
theorem OutB.cont {K : PySem.W.Frag} {A : Addr → Prop} {H0 : Hp} {s s1 : Sl} {σ : L2.St} {H H1 : Hp} {W : WX} {r : Mi.R Vl} {Q : Bool → Hp → Prop} (g : Go K Xn A H0 s σ H s1 σ H1) (h : OutB K Xn Xr A H0 s σ H W r Q) : OutB K Xn Xr A H0 s1 σ H1 W r Q := by
  unfold OutB at h ⊢
  split at h
  · exact fun H' g' => h H' (g.trans g')
  · exact h.elim
  · exact fun cls dx H' g' r => h cls dx H' (g.trans g') r
  · exact h
theorem tst_ands : ∀ {es : Es}, AllE (SndT T Φ Xn Xr) es → SndW T Φ Xn Xr es .And (evAnd Φ)
  | .nil, _ => by
    intro X c pes O t ck W tk A H0 s σ H R Q pos h
    rw [evAnd] at h
    exact h.elim
  | .cons e .nil, he => by
    intro X c pes O t ck W tk A H0 s σ H R Q pos h
    cases pes with
    | nil => simp [chkEs] at ck
    | cons x xs =>
      simp only [chkEs, Bool.and_eq_true] at ck
      cases xs with
      | cons _ _ => simp [chkEs] at ck
      | nil =>
        refine of_pw (pw_and1 pt_w) ?_
        refine he.1 X c x O t ck.1 W tk A H0 s σ H R _ ?_
        rw [evAnd] at h
        cases ea : ev Φ e s with
        | no => rw [ea] at h; exact h
        | ex cc args s1 => rw [ea] at h; exact h
        | ok v s1 =>
          rw [ea] at h
          try dsimp only at h
          split at h
          · rename_i q b s' e1; cases e1; exact h
          · exact h.elim
          · rename_i e1; cases e1
          · rename_i e1; cases e1
  | .cons e (.cons e2 es), he => by
    intro X c pes O t ck W tk A H0 s σ H R Q pos h
    cases pes with
    | nil => simp [chkEs] at ck
    | cons x xs =>
      cases xs with
      | nil => simp [chkEs] at ck
      | cons y ys =>
        simp only [chkEs, Bool.and_eq_true] at ck
        refine of_pw (pw_and pt_w pw_w) ?_
        refine he.1 X c x O t ck.1 W tk A H0 s σ H R _ ?_
        rw [evAnd] at h
        cases ea : ev Φ e s with
        | no => rw [ea] at h; exact h.elim
        | ex cc args s1 => rw [ea] at h; exact h
        | ok v s1 =>
          rw [ea] at h
          try dsimp only at h
          split at h
          · rename_i q s' e1
            cases e1
            intro H1 g1
            rw [if_pos rfl]
            exact tst_ands (es := .cons e2 es) he.2 X c (y :: ys) O t (by simp only [chkEs, Bool.and_eq_true]; exact ck.2) W tk A H0 _ σ H1 g1.rel Q pos (h.cont g1)
          · rename_i q s' e1
            cases e1
            intro H1 g1
            rw [if_neg Bool.false_ne_true]
            exact h H1 g1
          · exact h.elim
          · rename_i e1; cases e1
          · rename_i e1; cases e1
        · intro z; cases z
theorem tst_ors : ∀ {es : Es}, AllE (SndT T Φ Xn Xr) es → SndW T Φ Xn Xr es .Or (evOr Φ)
  | .nil, _ => by
    intro X c pes O t ck W tk A H0 s σ H R Q pos h
    rw [evOr] at h
    exact h.elim
  | .cons e .nil, he => by
    intro X c pes O t ck W tk A H0 s σ H R Q pos h
    cases pes with
    | nil => simp [chkEs] at ck
    | cons x xs =>
      simp only [chkEs, Bool.and_eq_true] at ck
      cases xs with
      | cons _ _ => simp [chkEs] at ck
      | nil =>
        refine of_pw (pw_or1 pt_w) ?_
        refine he.1 X c x O t ck.1 W tk A H0 s σ H R _ ?_
        rw [evOr] at h
        cases ea : ev Φ e s with
        | no => rw [ea] at h; exact h
        | ex cc args s1 => rw [ea] at h; exact h
        | ok v s1 =>
          rw [ea] at h
          try dsimp only at h
          split at h
          · rename_i q b s' e1; cases e1; exact h
          · exact h.elim
          · rename_i e1; cases e1
          · rename_i e1; cases e1
  | .cons e (.cons e2 es), he => by
    intro X c pes O t ck W tk A H0 s σ H R Q pos h
    cases pes with
    | nil => simp [chkEs] at ck
    | cons x xs =>
      cases xs with
      | nil => simp [chkEs] at ck
      | cons y ys =>
        simp only [chkEs, Bool.and_eq_true] at ck
        refine of_pw (pw_or pt_w pw_w) ?_
        refine he.1 X c x O t ck.1 W tk A H0 s σ H R _ ?_
        rw [evOr] at h
        cases ea : ev Φ e s with
        | no => rw [ea] at h; exact h.elim
        | ex cc args s1 => rw [ea] at h; exact h
        | ok v s1 =>
          rw [ea] at h
          try dsimp only at h
          split at h
          · rename_i q s' e1
            cases e1
            intro H1 g1
            rw [if_neg Bool.false_ne_true]
            exact tst_ors (es := .cons e2 es) he.2 X c (y :: ys) O t (by simp only [chkEs, Bool.and_eq_true]; exact ck.2) W tk A H0 _ σ H1 g1.rel Q pos (h.cont g1)
          · rename_i q s' e1
            cases e1
            intro H1 g1
            rw [if_pos rfl]
            exact h H1 g1
          · exact h.elim
          · rename_i e1; cases e1
          · rename_i e1; cases e1
        · intro z; cases z
theorem tst_and {es : Es} (he : AllE (SndT T Φ Xn Xr) es) : SndT T Φ Xn Xr (.and es) := by
  intro X c pe O t ck W tk A H0 s σ H R Q h
  cases pe <;> try (simp only [chkE, Bool.false_eq_true] at ck; done)
  rename_i o xs pos
  simp only [chkE, Bool.and_eq_true, decide_eq_true_eq] at ck
  obtain ⟨⟨rfl, ck⟩, _⟩ := ck
  rw [ev] at h
  exact of_pt pw_w.pt (tst_ands he X c xs O t ck W tk A H0 s σ H R Q pos h)
theorem tst_or {es : Es} (he : AllE (SndT T Φ Xn Xr) es) : SndT T Φ Xn Xr (.or es) := by
  intro X c pe O t ck W tk A H0 s σ H R Q h
  cases pe <;> try (simp only [chkE, Bool.false_eq_true] at ck; done)
  rename_i o xs pos
  simp only [chkE, Bool.and_eq_true, decide_eq_true_eq] at ck
  obtain ⟨⟨rfl, ck⟩, _⟩ := ck
  rw [ev] at h
  exact of_pt pw_w.pt (tst_ors he X c xs O t ck W tk A H0 s σ H R Q pos h)
/-! ### what is walked -/
def Fr1 (s : Sl) (σ : L2.St) (H H' : Hp) : Prop := ∀ b o, H b = some o → ¬ exc s σ b → H' b = some o
def ItOk (K : PySem.W.Frag) (A : Addr → Prop) (s : Sl) (σ : L2.St) (H : Hp) (J : L2.It) (ds : List D) : Prop := ∃ (G : Hp → Prop) (Y : Nat → Hp → V → Hp → Prop), Walk J ds.length G Y ∧ (∀ H', Fr1 s σ H H' → G H') ∧
  ∀ (i : Nat) H2 x H3 Z d, Fr1 s σ H H2 → (∀ b, Z b → Zs A s σ b ∨ H b = none) → (∀ b, Z b → H2 b ≠ none) → Y i H2 x H3 → ds[i]? = some d → (∀ b o, H2 b = some o → H3 b = some o) ∧ Rp Z K H3 x d
def OutI (K : PySem.W.Frag) (Xn : XnT) (Xr : XrT) (A : Addr → Prop) (H0 : Hp) (s : Sl) (σ : L2.St) (H : Hp) (W : WX) (r : Mi.R (List D)) (Q : L2.It → Hp → Prop) : Prop := match r with
  | .ok ds s' => ∀ J H', Go K Xn A H0 s σ H s' σ H' → ItOk K A s' σ H' J ds → Q J H'
  | .ex c args s' => ∀ cls dx H', Go K Xn A H0 s σ H s' σ H' → Xr (Zs A s' σ) c args cls dx H' → W cls dx σ H'
  | .no => False
def SndI (T : Tx) (Φ : Env) (Xn : XnT) (Xr : XrT) (it : It) : Prop := ∀ (X : Cx) (c : Cxt) (tg pi : Expr), Okx X c → Okt X T c Φ Xn Xr → chkI T c tg it pi = true → ∀ (W : WX), Takes X W → ∀ (A : Addr → Prop) (H0 : Hp) (s : Sl) (σ : L2.St) (H : Hp),
  Rel X.K Xn A H0 s σ H → ∀ Q : L2.It → Hp → Prop, OutI X.K Xn Xr A H0 s σ H W (evIt Φ it s) Q → ∃ wi : TI, PI X tg pi wi ∧ wi σ H Q
section
variable {K : PySem.W.Frag} {A : Addr → Prop} {s : Sl} {σ : L2.St} {H : Hp}
theorem rd_fr {a : Addr} {u : HO} {H' : Hp} (fr : Fr1 s σ H H') (h : Rd H a u) (n : ¬ Zs A s σ a) : Rd H' a u := by
  rcases h with h | ⟨o, h⟩
  · exact .inl (fr _ _ h fun q => n (.inr q))
  · exact .inr ⟨o, fr _ _ h fun q => n (.inr q)⟩
theorem it_list {a : Addr} {xs : List V} {ds : List D} (h : H a = some (.lst xs)) (n : ¬ Zs A s σ a) (r : RpAll (Zs A s σ) K H xs ds) : ItOk K A s σ H (Itl K a) ds := by
  refine ⟨_, _, by rw [← r.length]; exact walk_list (a := a), fun H' fr => SqL.of (fr _ _ h fun q => n (Or.inr q)), fun i H2 x H3 Z d fr z1 z2 y e => ?_⟩
  obtain ⟨rfl, hx⟩ := y
  obtain ⟨v, hv, rv⟩ := r.get e
  rw [hx] at hv
  cases hv
  exact ⟨fun _ _ q => q, rv.mono (fun b o q nz => fr b o q fun w => nz (.inr w)) z1⟩
theorem sqT_fr {a : Addr} {xs : List V} {ds : List D} {H' : Hp} (h : Rp (Zs A s σ) K H (.ref a) (.tuple ds)) (hx : SqT K H a xs) (fr : Fr1 s σ H H') : ∃ xs, SqT K H a xs ∧ SqT K H' a xs ∧ RpAll (Zs A s σ) K H xs ds := by
  cases h with
  | tup h n r => exact ⟨_, .inl h, .inl (rd_fr fr h n), r⟩
  | tupK h r => exact ⟨_, .inr h, .inr h, r⟩
/-- a tuple stays whatever else is changed -/
theorem tup_stays {a : Addr} {ds : List D} (h : Rp (Zs A s σ) K H (.ref a) (.tuple ds)) : ∃ xs, (∀ H', Fr1 s σ H H' → SqT K H' a xs) ∧ RpAll (Zs A s σ) K H xs ds := by
  cases h with
  | tup h n r => exact ⟨_, fun H' fr => .inl (rd_fr fr h n), r⟩
  | tupK h r => exact ⟨_, fun H' fr => .inr h, r⟩
theorem it_tup {a : Addr} {xs : List V} {ds : List D} (h : ∀ H', Fr1 s σ H H' → SqT K H' a xs) (r : RpAll (Zs A s σ) K H xs ds) : ItOk K A s σ H (Itt K a) ds := by
  refine ⟨_, _, by rw [← r.length]; exact walk_tup, h, fun i H2 x H3 Z d fr z1 z2 y e => ?_⟩
  obtain ⟨rfl, hx⟩ := y
  obtain ⟨v, hv, rv⟩ := r.get e
  rw [hx] at hv
  cases hv
  exact ⟨fun _ _ q => q, rv.mono (fun b o q nz => fr b o q fun w => nz (.inr w)) z1⟩
theorem it_text {z : Str} : ItOk K A s σ H (Its z) (z.cps.toList.map fun c => .str ⟨#[c]⟩) := by
  refine ⟨fun _ => True, _, by rw [List.length_map, Array.length_toList]; exact walk_str, fun _ _ => trivial, fun i H2 x H3 Z d fr z1 z2 y e => ?_⟩
  obtain ⟨rfl, c, hc, rfl⟩ := y
  rw [List.getElem?_map, Array.getElem?_toList, hc] at e
  cases e
  exact ⟨fun _ _ q => q, .str _⟩
theorem it_range {lo hi : Int} {n : Nat} (hn : n = (hi - lo).toNat) : ItOk K A s σ H (Itr lo n) (rangeD lo hi) := by
  subst hn
  refine ⟨fun _ => True, _, by unfold rangeD; rw [List.length_map, List.length_range]; exact walk_range, fun _ _ => trivial, fun i H2 x H3 Z d fr z1 z2 y e => ?_⟩
  obtain ⟨rfl, hx⟩ := y
  unfold rangeD at e
  rw [List.getElem?_map] at e
  cases q : (List.range (hi - lo).toNat)[i]? with
  | none => rw [q] at e; cases e
  | some k =>
    rw [q] at e
    cases e
    rw [List.getElem?_range (by by_cases hlt : i < (hi - lo).toNat; exact hlt; rw [List.getElem?_eq_none (by simpa using Nat.le_of_not_lt hlt)] at q; cases q)] at q
    cases q
    rw [hx]
    exact ⟨fun _ _ q => q, .int _⟩
theorem enumD_len : ∀ (k : Nat) (ds : List D), (enumD k ds).length = ds.length
  | _, [] => rfl
  | k, d :: ds => by simp [enumD, enumD_len]
theorem enumD_get : ∀ (k : Nat) (ds : List D) (i : Nat), (enumD k ds)[i]? = (ds[i]?).map fun d => .tuple [.int ((k + i : Nat) : Int), d]
  | _, [], i => by simp [enumD]
  | k, d :: ds, 0 => by simp [enumD]
  | k, d :: ds, i + 1 => by
    simp only [enumD, List.getElem?_cons_succ, enumD_get]
    rw [Nat.add_right_comm, Nat.add_assoc]
theorem zipD_len : ∀ (as bs : List D), (zipD as bs).length = min as.length bs.length
  | [], _ => by simp [zipD]
  | _ :: _, [] => by simp [zipD]
  | a :: as, b :: bs => by simp only [zipD, List.length_cons, zipD_len]; omega
theorem zipD_get : ∀ (as bs : List D) (i : Nat) (d : D), (zipD as bs)[i]? = some d → ∃ a b, as[i]? = some a ∧ bs[i]? = some b ∧ d = .tuple [a, b]
  | [], _, i, d, h => by simp [zipD] at h
  | _ :: _, [], i, d, h => by simp [zipD] at h
  | a :: as, b :: bs, 0, d, h => by
    simp only [zipD, List.getElem?_cons_zero, Option.some.injEq] at h
    exact ⟨a, b, rfl, rfl, h.symm⟩
  | a :: as, b :: bs, i + 1, d, h => by
    simp only [zipD, List.getElem?_cons_succ] at h
    simpa using zipD_get as bs i d h
/-- a new pair -/
theorem pair_ok {Z : Addr → Prop} {H2 : Hp} {p : Addr} {x y : V} {d e : D} (hp : H2 p = none) (z2 : ∀ b, Z b → H2 b ≠ none) (r : Rp Z K H2 x d) (r' : Rp Z K H2 y e) :
    (∀ b o, H2 b = some o → (upd H2 p (.tup [x, y])) b = some o) ∧ Rp Z K (upd H2 p (.tup [x, y])) (.ref p) (.tuple [d, e]) := by
  have ex : ∀ b o, H2 b = some o → (upd H2 p (.tup [x, y])) b = some o := fun b o q => by rw [upd_ne (ne_of_none q hp)]; exact q
  exact ⟨ex, .tup (.inl upd_same) (fun z => z2 p z hp) ((RpAll.cons r (.cons r' .nil)).mono (fun b o q _ => ex b o q) fun b q => .inl q)⟩
theorem it_enum {a : Addr} {xs : List V} {ds : List D} (h : H a = some (.lst xs)) (n : ¬ Zs A s σ a) (r : RpAll (Zs A s σ) K H xs ds) : ItOk K A s σ H (Ite K a) (enumD 0 ds) := by
  refine ⟨_, _, by rw [enumD_len, ← r.length]; exact walk_enum (a := a), fun H' fr => SqL.of (fr _ _ h fun q => n (Or.inr q)), fun i H2 x H3 Z d fr z1 z2 y e => ?_⟩
  obtain ⟨p, u, v, rfl, hp, rfl, hu, hv⟩ := y
  cases hu
  rw [enumD_get] at e
  obtain ⟨w, e1, rfl⟩ := Option.map_eq_some_iff.mp e
  obtain ⟨v', hv', rv⟩ := r.get e1
  have hv : xs[i]? = some v := hv
  rw [hv] at hv'
  cases hv'
  rw [Nat.zero_add]
  exact pair_ok hp z2 (.int _) (rv.mono (fun b o q nz => fr b o q fun w => nz (.inr w)) z1)
theorem walk_zipK {f g : Bool} {a b : Addr} {xs ys : List V} {n : Nat} (hn : n = min xs.length ys.length) : Walk (Itk K f g a b) n (fun H => SqK f K H a xs ∧ SqK g K H b ys) (YPair (fun i => xs[i]?) (fun i => ys[i]?)) := by
  subst hn
  refine ⟨fun i _ hi q => ?_, fun _ q => ⟨xs, ys, q.1, q.2, by omega⟩, fun i H v H' _ q y => ?_⟩
  · have h1 : i < xs.length := by omega
    have h2 : i < ys.length := by omega
    exact ⟨xs, ys, xs[i], ys[i], q.1, q.2, by simp [h1], by simp [h2]⟩
  · obtain ⟨T, x, y, h1, h2, h3, h4, h5⟩ := y
    exact ⟨T, x, y, h1, h2, h3, h4 xs q.1, h5 ys q.2⟩
theorem it_zipK {f g : Bool} {a b : Addr} {xs ys : List V} {ds es : List D} (h : ∀ H', Fr1 s σ H H' → SqK f K H' a xs) (r : RpAll (Zs A s σ) K H xs ds) (h' : ∀ H', Fr1 s σ H H' → SqK g K H' b ys) (r' : RpAll (Zs A s σ) K H ys es) :
    ItOk K A s σ H (Itk K f g a b) (zipD ds es) := by
  refine ⟨_, _, walk_zipK (xs := xs) (ys := ys) (by rw [zipD_len, ← r.length, ← r'.length]), fun H' fr => ⟨h H' fr, h' H' fr⟩, fun i H2 x H3 Z d fr z1 z2 y e => ?_⟩
  obtain ⟨p, u, v, rfl, hp, rfl, hu, hv⟩ := y
  obtain ⟨d1, d2, e1, e2, rfl⟩ := zipD_get _ _ _ _ e
  obtain ⟨u', hu', ru⟩ := r.get e1
  obtain ⟨v', hv', rv⟩ := r'.get e2
  have hu : xs[i]? = some u := hu
  have hv : ys[i]? = some v := hv
  rw [hu] at hu'
  rw [hv] at hv'
  cases hu'
  cases hv'
  exact pair_ok hp z2 (ru.mono (fun b o q nz => fr b o q fun w => nz (.inr w)) z1) (rv.mono (fun b o q nz => fr b o q fun w => nz (.inr w)) z1)
end
end
end Mi

/-! Mi10: what is walked; targets; comprehensions. -/
namespace Mi
open PySem PySem.Spec PyProof.Rows L2
section
variable {T : Tx} {Φ : Env} {Xn : XnT} {Xr : XrT} {X : Cx} {c : Cxt}
theorem ho_iff {K : PySem.W.Frag} {A : Addr → Prop} {H : Hp} {x : V} {ds : List D} (h : Rp A K H x (.list ds)) : ∃ a xs, x = .ref a ∧ H a = some (.lst xs) ∧ ¬ A a ∧ RpAll A K H xs ds := by
  cases h with
  | lst h n r => exact ⟨_, _, rfl, h, n, r⟩
theorem sndi_e {e : E} (he : SndE T Φ Xn Xr e) : SndI T Φ Xn Xr (.e e) := by
  intro X c tg pi O t ck W tk A H0 s σ H R Q h
  simp only [chkI] at ck
  rw [evIt] at h
  -- the value's kind tells the walk
  cases ea : ev Φ e s with
  | no => rw [ea] at h; exact h.elim
  | ex cc args s1 =>
    rw [ea] at h
    exact ⟨_, pi_list pe_w, he X c pi O t ck W tk A H0 s σ H R _ (by rw [ea]; exact fun cls dx H' g r => h cls dx H' g r)⟩
  | ok v s1 =>
    rw [ea] at h
    dsimp only at h
    split at h
    · rename_i d s2 e2
      cases d <;> simp only [itemsOf, ofO] at h <;> try exact h.elim
      · refine ⟨_, pi_str pe_w, he X c pi O t ck W tk A H0 s σ H R _ ?_⟩
        rw [ea]
        intro x H1 g r
        obtain ⟨g2, r2⟩ := esc_ok g.rel r.late e2
        obtain rfl := Rp.str_inv r2
        exact ⟨_, rfl, h _ H1 (g.trans g2) it_text⟩
      · refine ⟨_, pi_list pe_w, he X c pi O t ck W tk A H0 s σ H R _ ?_⟩
        rw [ea]
        intro x H1 g r
        obtain ⟨g2, r2⟩ := esc_ok g.rel r.late e2
        obtain ⟨a, xs, rfl, h1, n, r3⟩ := ho_iff r2
        exact ⟨a, rfl, ⟨xs, SqL.of h1⟩, h _ H1 (g.trans g2) (it_list h1 n r3)⟩
      · refine ⟨_, pi_tup pe_w, he X c pi O t ck W tk A H0 s σ H R _ ?_⟩
        rw [ea]
        intro x H1 g r
        obtain ⟨g2, r2⟩ := esc_ok g.rel r.late e2
        obtain ⟨a, xs, rfl, h1, _⟩ := r2.tup_inv
        obtain ⟨xs', st, r3⟩ := tup_stays r2
        exact ⟨a, rfl, ⟨xs', st H1 fun _ _ q _ => q⟩, h _ H1 (g.trans g2) (it_tup st r3)⟩
    · exact h.elim
theorem sndi_rng1 {a : E} (ha : SndE T Φ Xn Xr a) : SndI T Φ Xn Xr (.rng1 a) := by
  intro X c tg pi O t ck W tk A H0 s σ H R Q h
  cases pi <;> try (simp only [chkI, Bool.false_eq_true] at ck; done)
  rename_i fe as kws pos
  cases fe <;> try (simp only [chkI, Bool.false_eq_true] at ck; done)
  rename_i f p
  match as, kws, ck with
  | [x], [], ck =>
    simp only [chkI, Bool.and_eq_true, decide_eq_true_eq] at ck
    obtain ⟨⟨rfl, hg⟩, ca⟩ := ck
    obtain ⟨g1, _⟩ := O.gl hg
    refine ⟨_, pi_range1 g1 (t.blt _ (by decide +kernel)) (pa_cons pe_w pa_nil (nostar (chk_noStar ca))) (nostar (chk_noStar ca)), ?_⟩
    refine ha X c x O t ca W tk A H0 s σ H R _ ?_
    rw [evIt] at h
    cases ea : ev Φ a s with
    | no => rw [ea] at h; exact h.elim
    | ex cc args s1 => rw [ea] at h; exact fun cls dx H' g r => h cls dx H' g r
    | ok v s1 =>
      rw [ea] at h
      try dsimp only at h
      intro y H1 g r
      split at h
      · rename_i q i s' e1
        cases e1
        obtain rfl := Rp.int_inv r
        split at h
        · rename_i hb
          unfold rngB at hb
          simp only [Bool.and_eq_true, decide_eq_true_eq] at hb
          exact ⟨i, rfl, hb.1, hb.2, h _ H1 g (it_range (by simp))⟩
        · exact h.elim
      · exact h.elim
      · rename_i e1; cases e1
      · rename_i e1; cases e1
  | [], _, ck => simp [chkI] at ck
  | _ :: _ :: _, _, ck => simp [chkI] at ck
  | [_], _ :: _, ck => simp [chkI] at ck
theorem sndi_rng2 {a b : E} (ha : SndE T Φ Xn Xr a) (hb : SndE T Φ Xn Xr b) : SndI T Φ Xn Xr (.rng2 a b) := by
  intro X c tg pi O t ck W tk A H0 s σ H R Q h
  cases pi <;> try (simp only [chkI, Bool.false_eq_true] at ck; done)
  rename_i fe as kws pos
  cases fe <;> try (simp only [chkI, Bool.false_eq_true] at ck; done)
  rename_i f p
  match as, kws, ck with
  | [x, y], [], ck =>
    simp only [chkI, Bool.and_eq_true, decide_eq_true_eq] at ck
    obtain ⟨⟨⟨rfl, hg⟩, ca⟩, cb⟩ := ck
    obtain ⟨g1, _⟩ := O.gl hg
    have st1 := nostar (env := X.env) (es := [y]) (chk_noStar ca)
    have st2 := nostar (env := X.env) (es := []) (chk_noStar cb)
    refine ⟨_, pi_range2 g1 (t.blt _ (by decide +kernel)) (pa_cons pe_w (pa_cons pe_w pa_nil st2) st1) (by rw [st1, st2]; rfl) st2, ?_⟩
    refine ha X c x O t ca W tk A H0 s σ H R _ ?_
    rw [evIt] at h
    cases ea : ev Φ a s with
    | no => rw [ea] at h; exact h.elim
    | ex cc args s1 => rw [ea] at h; exact fun cls dx H' g r => h cls dx H' g r
    | ok v s1 =>
      rw [ea] at h
      try dsimp only at h
      intro x' H1 g r
      refine hb X c y O t cb W tk A H0 s1 σ H1 g.rel _ ?_
      split at h
      · rename_i q i s' e1
        cases e1
        obtain rfl := Rp.int_inv r
        cases eb : ev Φ b s1 with
        | no => rw [eb] at h; exact h.elim
        | ex cc args s2 => rw [eb] at h; exact fun cls dx H' g' r => h cls dx H' (g.trans g') r
        | ok w s2 =>
          rw [eb] at h
          try dsimp only at h
          intro y' H2 g2 r2
          split at h
          · rename_i q j s' e1
            cases e1
            obtain rfl := Rp.int_inv r2
            split at h
            · rename_i hb
              unfold rngB at hb
              simp only [Bool.and_eq_true, decide_eq_true_eq] at hb
              exact ⟨i, j, rfl, ⟨hb.1.1, hb.1.2, hb.2.1, hb.2.2⟩, h _ H2 (g.trans g2) (it_range rfl)⟩
            · exact h.elim
          · exact h.elim
          · rename_i e1; cases e1
          · rename_i e1; cases e1
      · exact h.elim
      · rename_i e1; cases e1
      · rename_i e1; cases e1
  | [], _, ck => simp [chkI] at ck
  | [_], _, ck => simp [chkI] at ck
  | _ :: _ :: _ :: _, _, ck => simp [chkI] at ck
  | [_, _], _ :: _, ck => simp [chkI] at ck
theorem sndi_enm {a : E} (ha : SndE T Φ Xn Xr a) : SndI T Φ Xn Xr (.enm a) := by
  intro X c tg pi O t ck W tk A H0 s σ H R Q h
  cases pi <;> try (simp only [chkI, Bool.false_eq_true] at ck; done)
  rename_i fe as kws pos
  cases fe <;> try (simp only [chkI, Bool.false_eq_true] at ck; done)
  rename_i f p
  match as, kws, ck with
  | [x], [], ck =>
    simp only [chkI, Bool.and_eq_true, decide_eq_true_eq] at ck
    obtain ⟨⟨⟨ht, rfl⟩, hg⟩, ca⟩ := ck
    obtain ⟨g1, _⟩ := O.gl hg
    cases tg <;> first | (cases ht; done) | skip
    rename_i elts kk tpos
    refine ⟨_, pi_enum g1 (t.blt _ (by decide +kernel)) (pa_cons pe_w pa_nil (nostar (chk_noStar ca))) (nostar (chk_noStar ca)), ?_⟩
    refine ha X c x O t ca W tk A H0 s σ H R _ ?_
    rw [evIt] at h
    cases ea : ev Φ a s with
    | no => rw [ea] at h; exact h.elim
    | ex cc args s1 => rw [ea] at h; exact fun cls dx H' g r => h cls dx H' g r
    | ok v s1 =>
      rw [ea] at h
      try dsimp only at h
      intro y H1 g r
      split at h
      · rename_i xs s2 e2
        obtain ⟨g2, r2⟩ := esc_ok g.rel r.late e2
        obtain ⟨a', vs, rfl, h1, n, r3⟩ := ho_iff r2
        exact ⟨a', vs, rfl, SqL.of h1, h _ H1 (g.trans g2) (it_enum h1 n r3)⟩
      · exact h.elim
  | [], _, ck => simp [chkI] at ck
  | _ :: _ :: _, _, ck => simp [chkI] at ck
  | [_], _ :: _, ck => simp [chkI] at ck
theorem sndi_zip {a b : E} (ha : SndE T Φ Xn Xr a) (hb : SndE T Φ Xn Xr b) : SndI T Φ Xn Xr (.zip a b) := by
  intro X c tg pi O t ck W tk A H0 s σ H R Q h
  cases pi <;> try (simp only [chkI, Bool.false_eq_true] at ck; done)
  rename_i fe as kws pos
  cases fe <;> try (simp only [chkI, Bool.false_eq_true] at ck; done)
  rename_i f p
  match as, kws, ck with
  | [x, y], [], ck =>
    simp only [chkI, Bool.and_eq_true, decide_eq_true_eq] at ck
    obtain ⟨⟨⟨⟨ht, rfl⟩, hg⟩, ca⟩, cb⟩ := ck
    obtain ⟨g1, _⟩ := O.gl hg
    cases tg <;> first | (cases ht; done) | skip
    rename_i elts kk tpos
    have st1 := nostar (env := X.env) (es := [y]) (chk_noStar ca)
    have st2 := nostar (env := X.env) (es := []) (chk_noStar cb)
    refine ⟨_, pi_zipO g1 (t.blt _ (by decide +kernel)) (pa_cons pe_w (pa_cons pe_w pa_nil st2) st1) st1 (by rw [st2]; rfl), ?_⟩
    refine ha X c x O t ca W tk A H0 s σ H R _ ?_
    rw [evIt] at h
    cases ea : ev Φ a s with
    | no => rw [ea] at h; exact h.elim
    | ex cc args s1 => rw [ea] at h; exact fun cls dx H' g r => h cls dx H' g r
    | ok v s1 =>
      rw [ea] at h
      try dsimp only at h
      intro x' H1 g r
      refine hb X c y O t cb W tk A H0 s1 σ H1 g.rel _ ?_
      cases eb : ev Φ b s1 with
      | no => rw [eb] at h; exact h.elim
      | ex cc args s2 => rw [eb] at h; exact fun cls dx H' g' r => h cls dx H' (g.trans g') r
      | ok w s2 =>
        rw [eb] at h
        try dsimp only at h
        intro y' H2 g2 r2
        have vls : VLs X.K A s2 σ H2 [v, w] [x', y'] := .cons (r.late.go g2) (.cons r2.late .nil)
        split at h
        · rename_i xs ys s3 e3
          obtain ⟨g3, r3⟩ := escs_ok g2.rel vls e3
          cases r3 with
          | cons q1 q2 =>
            cases q2 with
            | cons q2 q3 =>
              obtain ⟨a1, u1, rfl, h1, n1, w1⟩ := ho_iff q1
              have k1 : ∀ H', Fr1 s3 σ H2 H' → SqK false X.K H' a1 u1 := fun H' fr => SqL.of (fr _ _ h1 fun q => n1 (Or.inr q))
              obtain ⟨a2, u2, rfl, h2, n2, w2⟩ := ho_iff q2
              have k2 : ∀ H', Fr1 s3 σ H2 H' → SqK false X.K H' a2 u2 := fun H' fr => SqL.of (fr _ _ h2 fun q => n2 (Or.inr q))
              exact ⟨a1, a2, u1, u2, false, false, rfl, SqL.of h1, SqL.of h2, h _ H2 ((g.trans g2).trans g3) (it_zipK k1 w1 k2 w2)⟩
        · rename_i xs ys s3 e3
          obtain ⟨g3, r3⟩ := escs_ok g2.rel vls e3
          cases r3 with
          | cons q1 q2 =>
            cases q2 with
            | cons q2 q3 =>
              obtain ⟨a1, _, rfl, _⟩ := q1.tup_inv
              obtain ⟨u1, st1, w1⟩ := tup_stays q1
              have k1 : ∀ H', Fr1 s3 σ H2 H' → SqK true X.K H' a1 u1 := st1
              obtain ⟨a2, _, rfl, _⟩ := q2.tup_inv
              obtain ⟨u2, st2, w2⟩ := tup_stays q2
              have k2 : ∀ H', Fr1 s3 σ H2 H' → SqK true X.K H' a2 u2 := st2
              exact ⟨a1, a2, u1, u2, true, true, rfl, st1 H2 (fun _ _ q _ => q), st2 H2 (fun _ _ q _ => q), h _ H2 ((g.trans g2).trans g3) (it_zipK k1 w1 k2 w2)⟩
        · rename_i xs ys s3 e3
          obtain ⟨g3, r3⟩ := escs_ok g2.rel vls e3
          cases r3 with
          | cons q1 q2 =>
            cases q2 with
            | cons q2 q3 =>
              obtain ⟨a1, u1, rfl, h1, n1, w1⟩ := ho_iff q1
              have k1 : ∀ H', Fr1 s3 σ H2 H' → SqK false X.K H' a1 u1 := fun H' fr => SqL.of (fr _ _ h1 fun q => n1 (Or.inr q))
              obtain ⟨a2, _, rfl, _⟩ := q2.tup_inv
              obtain ⟨u2, st2, w2⟩ := tup_stays q2
              have k2 : ∀ H', Fr1 s3 σ H2 H' → SqK true X.K H' a2 u2 := st2
              exact ⟨a1, a2, u1, u2, false, true, rfl, SqL.of h1, st2 H2 (fun _ _ q _ => q), h _ H2 ((g.trans g2).trans g3) (it_zipK k1 w1 k2 w2)⟩
        · rename_i xs ys s3 e3
          obtain ⟨g3, r3⟩ := escs_ok g2.rel vls e3
          cases r3 with
          | cons q1 q2 =>
            cases q2 with
            | cons q2 q3 =>
              obtain ⟨a1, _, rfl, _⟩ := q1.tup_inv
              obtain ⟨u1, st1, w1⟩ := tup_stays q1
              have k1 : ∀ H', Fr1 s3 σ H2 H' → SqK true X.K H' a1 u1 := st1
              obtain ⟨a2, u2, rfl, h2, n2, w2⟩ := ho_iff q2
              have k2 : ∀ H', Fr1 s3 σ H2 H' → SqK false X.K H' a2 u2 := fun H' fr => SqL.of (fr _ _ h2 fun q => n2 (Or.inr q))
              exact ⟨a1, a2, u1, u2, true, false, rfl, st1 H2 (fun _ _ q _ => q), SqL.of h2, h _ H2 ((g.trans g2).trans g3) (it_zipK k1 w1 k2 w2)⟩
        · exact h.elim
  | [], _, ck => simp [chkI] at ck
  | [_], _, ck => simp [chkI] at ck
  | _ :: _ :: _ :: _, _, ck => simp [chkI] at ck
  | [_, _], _ :: _, ck => simp [chkI] at ck

/-! ### targets -/
def wpG (X : Cx) (tg : Expr) : TG := fun v σ H Q => ∀ (pins : List (Addr × Obj)) (s : Shared) (u : Value), Inv X pins σ H s → RelV v u → wpAny (model X.prog X.w) X.A (assign tg X.env u) (fun _ s' => ∃ σ' H', Inv X pins σ' H' s' ∧ Q σ' H') X.xe s
theorem pg_w {tg : Expr} : PG X tg (wpG X tg) := ⟨fun pins s σ H v u Q I r h => h pins s u I r⟩
theorem of_pg {tg : Expr} {t : TG} (h : PG X tg t) {v : V} {σ : L2.St} {H : Hp} {Q : L2.St → Hp → Prop} (q : t v σ H Q) : wpG X tg v σ H Q := fun pins s u I r => h.run pins s σ H v u Q I r q
theorem wipe_set {σ : L2.St} {j : Nat} {x : Option V} : ∀ {vs : List Nat}, j ∈ vs → wipe (σ.set j x) vs = wipe σ vs
  | [], h => by simp at h
  | v :: vs, h => by
    unfold wipe
    by_cases hv : j ∈ vs
    · rw [wipe_set hv]
    · have e : j = v := by
        rcases List.mem_cons.mp h with z | z
        · exact z
        · exact absurd z hv
      subst e
      have : ∀ (vs : List Nat), j ∉ vs → wipe (σ.set j x) vs = (wipe σ vs).set j x := by
        intro vs
        induction vs with
        | nil => intro _; rfl
        | cons w vs ih =>
          intro hw
          simp only [List.mem_cons, not_or] at hw
          unfold wipe
          rw [ih hw.2, List.set_comm _ _ hw.1]
      rw [this vs hv, List.set_set]
theorem wipe_wipe {σ : L2.St} (vs : List Nat) : wipe (wipe σ vs) vs = wipe σ vs := by
  have : ∀ (us : List Nat), (∀ u ∈ us, u ∈ vs) → wipe (wipe σ us) vs = wipe σ vs := by
    intro us
    induction us with
    | nil => intro _; rfl
    | cons u us ih =>
      intro hu
      show wipe ((wipe σ us).set u none) vs = _
      rw [wipe_set (hu u List.mem_cons_self)]
      exact ih fun w hw => hu w (List.mem_cons_of_mem _ hw)
  exact this vs fun _ h => h
mutual
def tgIx : Tg → List Nat
  | .nm i => [i]
  | .tp ts => tgsIx ts
def tgsIx : Tgs → List Nat
  | .nil => []
  | .cons t ts => tgIx t ++ tgsIx ts
end
/-- what a store of a target leaves of the slots -/
def SetsIn (js : List Nat) (σ σ' : L2.St) : Prop := σ'.length = σ.length ∧ ∀ vs : List Nat, (∀ j ∈ js, j ∈ vs) → wipe σ' vs = wipe σ vs
def tgsLen : Tgs → Nat
  | .nil => 0
  | .cons _ ts => tgsLen ts + 1
theorem assign_none : ∀ {es : List Expr} {ts : Tgs}, chkGs c ts es = true → ∀ env : PySem.Env, (assignEach es env).length = tgsLen ts ∧ (assignEach es env).findIdx? (·.1) = none
  | [], .nil, _, env => ⟨rfl, rfl⟩
  | e :: es, .cons t ts, h, env => by
    simp only [chkGs, Bool.and_eq_true] at h
    obtain ⟨ih1, ih2⟩ := assign_none (ts := ts) h.2 env
    have : assignEach (e :: es) env = (false, assign e env) :: assignEach es env := by
      have h1 := h.1.1
      cases e <;> first | rfl | cases h1
    rw [this]
    refine ⟨by simp [tgsLen, ih1], ?_⟩
    rw [List.findIdx?_cons, ih2]
    rfl
  | [], .cons _ _, h, _ => by simp [chkGs] at h
  | _ :: _, .nil, h, _ => by simp [chkGs] at h
theorem SetsIn.refl {js : List Nat} {σ : L2.St} : SetsIn js σ σ := ⟨rfl, fun _ _ => rfl⟩
theorem SetsIn.trans {js ks : List Nat} {σ σ1 σ2 : L2.St} (h : SetsIn js σ σ1) (h' : SetsIn ks σ1 σ2) : SetsIn (js ++ ks) σ σ2 :=
  ⟨h'.1.trans h.1, fun vs hv => (h'.2 vs fun j hj => hv j (List.mem_append_right _ hj)).trans (h.2 vs fun j hj => hv j (List.mem_append_left _ hj))⟩
mutual
theorem snd_tg : ∀ (tg : Tg) {X : Cx} {c : Cxt} {pt : Expr}, Okx X c → chkG c tg pt = true → ∀ {A : Addr → Prop} {H0 : Hp} {s s' : Sl} {σ : L2.St} {H : Hp} {v : V} {d : D}, Rel X.K Xn A H0 s σ H → Rp (Zs A s σ) X.K H v d → bindD tg d s = some s' →
    ∀ Q : L2.St → Hp → Prop, (∀ σ', Go X.K Xn A H0 s σ H s' σ' H → SetsIn (tgIx tg) σ σ' → Q σ' H) → wpG X pt v σ H Q
  | .nm i, X, c, pt, O, ck, A, H0, s, s', σ, H, v, d, R, r, e, Q, k => by
    cases pt <;> simp only [chkG, Bool.false_eq_true] at ck
    rename_i x pos
    simp only [Bool.and_eq_true, decide_eq_true_eq] at ck
    obtain ⟨h1, h2⟩ := O.loc ck.2
    refine of_pg (pg_name (i := i) O.nd (by rw [O.N]; exact ck.1) h1 h2) ?_
    simp only [bindD] at e
    split at e
    · cases e
      exact k _ (R.goVal r) ⟨by simp, fun vs hv => wipe_set (hv i (by simp [tgIx]))⟩
    · cases e
  | .tp ts, X, c, pt, O, ck, A, H0, s, s', σ, H, v, d, R, r, e, Q, k => by
    cases pt <;> simp only [chkG, Bool.false_eq_true] at ck
    rename_i es kk pos
    simp only [Bool.and_eq_true, Bool.not_eq_true'] at ck
    obtain ⟨l1, l2⟩ := assign_none ck.2 X.env
    have hlen : ∀ (ts : Tgs) (ds : List D) (s s' : Sl), bindDs ts ds s = some s' → ds.length = tgsLen ts := by
      intro ts
      induction ts using Tgs.rec (motive_1 := fun _ => True) with
      | nm => trivial
      | tp => trivial
      | nil =>
        intro ds s s' h
        cases ds with
        | nil => rfl
        | cons _ _ => simp [bindDs] at h
      | cons t ts _ ih =>
        intro ds s s' h
        cases ds with
        | nil => simp [bindDs] at h
        | cons d ds =>
          simp only [bindDs] at h
          split at h
          · simp [tgsLen, ih ds _ _ h]
          · cases h
    cases d <;> simp only [bindD] at e <;> try (cases e; done)
    · rename_i ds
      cases r with
      | lst h1 h2 r1 =>
        obtain ⟨t, p, q⟩ := snd_tgs ts O ck.2 R r1 e Q k
        have hl := r1.length.trans (hlen _ _ _ _ e)
        exact of_pg (pg_unl (O.calm ck.1) p l1 l2) ⟨_, _, rfl, SqL.of h1, hl, q⟩
    · rename_i ds
      obtain ⟨a, xs, rfl, h1, r1⟩ := r.tup_inv
      obtain ⟨t, p, q⟩ := snd_tgs ts O ck.2 R r1 e Q k
      have hl := r1.length.trans (hlen _ _ _ _ e)
      exact of_pg (pg_tup (O.calm ck.1) p l1 l2) ⟨a, xs, rfl, h1, hl, q⟩
theorem snd_tgs : ∀ (ts : Tgs) {X : Cx} {c : Cxt} {pts : List Expr}, Okx X c → chkGs c ts pts = true → ∀ {A : Addr → Prop} {H0 : Hp} {s s' : Sl} {σ : L2.St} {H : Hp} {vs : List V} {ds : List D}, Rel X.K Xn A H0 s σ H → RpAll (Zs A s σ) X.K H vs ds → bindDs ts ds s = some s' →
    ∀ Q : L2.St → Hp → Prop, (∀ σ', Go X.K Xn A H0 s σ H s' σ' H → SetsIn (tgsIx ts) σ σ' → Q σ' H) → ∃ t : TGs, PGs X pts t ∧ t vs σ H Q
  | .nil, X, c, pts, O, ck, A, H0, s, s', σ, H, vs, ds, R, r, e, Q, k => by
    cases pts with
    | cons _ _ => simp [chkGs] at ck
    | nil =>
      cases r with
      | cons _ _ => simp [bindDs] at e
      | nil =>
        simp only [bindDs, Option.some.injEq] at e
        subst e
        exact ⟨_, pgs_nil, rfl, k _ (Go.refl R) SetsIn.refl⟩
  | .cons t ts, X, c, pts, O, ck, A, H0, s, s', σ, H, vs, ds, R, r, e, Q, k => by
    cases pts with
    | nil => simp [chkGs] at ck
    | cons p pts =>
      simp only [chkGs, Bool.and_eq_true] at ck
      cases r with
      | nil => simp [bindDs] at e
      | cons h r =>
        rename_i v vs d ds
        simp only [bindDs] at e
        split at e
        · rename_i s1 e1
          have st : (assignEach (p :: pts) X.env).map (·.2) = assign p X.env :: (assignEach pts X.env).map (·.2) := by
            have h1 := ck.1.1
            cases p <;> first | rfl | cases h1
          refine ⟨gCons (wpG X p) (fun vs σ H Q => ∃ t : TGs, PGs X pts t ∧ t vs σ H Q), pgs_cons pg_w ⟨fun pins s σ H vs us Q I r ⟨t, p, q⟩ => p.run pins s σ H vs us Q I r q⟩ st, v, vs, rfl, ?_⟩
          refine snd_tg t O ck.1.2 R h e1 _ fun σ1 g1 s1' => ?_
          exact snd_tgs ts O ck.2 g1.rel (g1.rpAll r) e Q fun σ2 g2 s2' => k σ2 (g1.trans g2) (s1'.trans s2')
        · cases e
end
end
end Mi

/-! Mi11: comprehensions. -/
namespace Mi
open PySem PySem.Spec PyProof.Rows L2
section
variable {K : PySem.W.Frag} {Xn : XnT} {A : Addr → Prop} {H0 : Hp} {s s' s1 s2 s4 : Sl} {σ σ1 σ2 : L2.St} {H H' H1 H2 H4 : Hp}
theorem wipeS_len (s : Sl) : ∀ vs : List Nat, (wipeS s vs).length = s.length
  | [] => rfl
  | v :: vs => by unfold wipeS; rw [List.length_set, wipeS_len s vs]
theorem wipeS_out {s : Sl} {j : Nat} : ∀ {vs : List Nat}, j ∉ vs → (wipeS s vs)[j]? = s[j]?
  | [], _ => rfl
  | v :: vs, h => by
    simp only [List.mem_cons, not_or] at h
    unfold wipeS
    rw [get_set_ne h.1, wipeS_out h.2]
theorem wipeS_in {s : Sl} {j : Nat} : ∀ {vs : List Nat}, j ∈ vs → ∀ x, (wipeS s vs)[j]? = some x → x = Slot.no
  | [], h, _, _ => by simp at h
  | v :: vs, h, x, e => by
    unfold wipeS at e
    by_cases hj : j = v
    · subst hj
      exact (get_set_eq e).1.symm
    · rw [get_set_ne hj] at e
      rcases List.mem_cons.mp h with z | z
      · exact absurd z hj
      · exact wipeS_in z x e
theorem rstS_len (s0 s : Sl) : ∀ vs : List Nat, (rstS s0 s vs).length = s.length
  | [] => rfl
  | v :: vs => by unfold rstS; rw [List.length_set, rstS_len s0 s vs]
theorem rstS_out {s0 s : Sl} {j : Nat} : ∀ {vs : List Nat}, j ∉ vs → (rstS s0 s vs)[j]? = s[j]?
  | [], _ => rfl
  | v :: vs, h => by
    simp only [List.mem_cons, not_or] at h
    unfold rstS
    rw [get_set_ne h.1, rstS_out h.2]
theorem rstS_in {s0 s : Sl} {j : Nat} (hl : s0.length = s.length) : ∀ {vs : List Nat}, j ∈ vs → (rstS s0 s vs)[j]? = s0[j]?
  | [], h => by simp at h
  | v :: vs, h => by
    unfold rstS
    by_cases hj : j = v
    · subst hj
      by_cases hlt : j < s.length
      · rw [List.getElem?_set_self (by rw [rstS_len]; exact hlt), List.getD_eq_getElem?_getD, List.getElem?_eq_getElem (by rw [hl]; exact hlt)]
        rfl
      · rw [List.getElem?_eq_none (by rw [List.length_set, rstS_len]; omega), List.getElem?_eq_none (by omega)]
    · rw [get_set_ne hj]
      rcases List.mem_cons.mp h with z | z
      · exact absurd z hj
      · exact rstS_in hl z
theorem clean_in : ∀ {vs : List Nat}, clean s vs = true → ∀ j ∈ vs, (∀ p d, s[j]? ≠ some (Slot.own p d)) ∧ (∀ c a, s[j]? ≠ some (Slot.exn c a)) ∧ j < s.length
  | [], _, j, h => by simp at h
  | v :: vs, h, j, hj => by
    simp only [clean, Bool.and_eq_true] at h
    rcases List.mem_cons.mp hj with z | z
    · subst z
      have h1 := h.1
      cases e : s[j]? with
      | none => rw [e] at h1; cases h1
      | some x =>
        rw [e] at h1
        refine ⟨fun p d q => ?_, fun c a q => ?_, (List.getElem?_eq_some_iff.mp e).1⟩
        · cases q; cases h1
        · cases q; cases h1
    · exact clean_in h.2 j z
theorem wipe_out' {j : Nat} : ∀ {vs : List Nat}, j ∉ vs → (wipe σ vs)[j]? = σ[j]?
  | [], _ => rfl
  | v :: vs, h => by
    simp only [List.mem_cons, not_or] at h
    unfold wipe
    rw [get_set_ne h.1, wipe_out' h.2]
theorem rel_wipe (R : Rel K Xn A H0 s σ H) : ∀ vs : List Nat, Rel K Xn A H0 (wipeS s vs) (wipe σ vs) H
  | [] => R
  | v :: vs => (rel_wipe R vs).setNo
theorem exc_wipe {vs : List Nat} (cl : clean s vs = true) (a : Addr) : exc (wipeS s vs) (wipe σ vs) a ↔ exc s σ a := by
  constructor
  · rintro ⟨j, p, d, h1, h2⟩
    by_cases hj : j ∈ vs
    · cases wipeS_in hj _ h1
    · rw [wipeS_out hj] at h1
      rw [wipe_out' hj] at h2
      exact ⟨j, p, d, h1, h2⟩
  · rintro ⟨j, p, d, h1, h2⟩
    have hj : j ∉ vs := fun hj => (clean_in cl j hj).1 p d h1
    exact ⟨j, p, d, by rw [wipeS_out hj]; exact h1, by rw [wipe_out' hj]; exact h2⟩
/-- the block's own slots as they stood ahead of it -/
theorem rel_rst (hx : XnOk Xn) {vs : List Nat} (cl : clean s vs = true) (R : Rel K Xn A H0 s σ H) (g : Go K Xn A H0 (wipeS s vs) (wipe σ vs) H s4 σ2 H4) (hw : wipe σ2 vs = wipe σ vs) :
    Go K Xn A H0 s σ H (rstS s s4 vs) σ H4 ∧ clean (rstS s s4 vs) vs = true := by
  have hl : s.length = s4.length := by
    have h1 := g.rel.len
    have h2 : (wipe σ2 vs).length = (wipe σ vs).length := by rw [hw]
    rw [wipe_length, wipe_length] at h2
    rw [R.len, h1, h2]
  have so : ∀ j : Nat, j ∉ vs → σ2[j]? = σ[j]? := fun j hj => by
    rw [← wipe_out' (σ := σ2) hj, hw, wipe_out' hj]
  have ex : ∀ a, exc (rstS s s4 vs) σ a → exc s4 σ2 a := by
    rintro a ⟨j, p, d, h1, h2⟩
    by_cases hj : j ∈ vs
    · rw [rstS_in hl hj] at h1
      exact absurd h1 ((clean_in cl j hj).1 p d)
    · rw [rstS_out hj] at h1
      exact ⟨j, p, d, h1, by rw [so j hj]; exact h2⟩
  have zz : ∀ b, Zs A (rstS s s4 vs) σ b → Zs A s4 σ2 b := fun b q => by
    rcases q with q | q
    · exact .inl q
    · exact .inr (ex b q)
  have ff : ∀ b o, H b = some o → ¬ exc s σ b → H4 b = some o := fun b o h n => g.fr b o h fun q => n ((exc_wipe cl b).mp q)
  have z0 : ∀ b, Zs A (rstS s s4 vs) σ b → Zs A s σ b ∨ H b = none := fun b q => by
    rcases g.zs b (zz b q) with (z | z) | z
    · exact .inl (.inl z)
    · exact .inl (.inr ((exc_wipe cl b).mp z))
    · exact .inr z
  have cl' : ∀ (us : List Nat), (∀ j ∈ us, j ∈ vs) → clean s us = true → clean (rstS s s4 vs) us = true := by
    intro us
    induction us with
    | nil => intro _ _; rfl
    | cons u us ih =>
      intro hu h
      simp only [clean, Bool.and_eq_true] at h ⊢
      rw [rstS_in hl (hu u List.mem_cons_self)]
      exact ⟨h.1, ih (fun j hj => hu j (List.mem_cons_of_mem _ hj)) h.2⟩
  refine ⟨⟨⟨by rw [rstS_len, ← hl]; exact R.len, g.rel.dom, g.rel.dom0, fun j d h => ?_, fun j p d h => ?_, fun i j p q d e a h1 h2 h3 h4 => ?_, fun j cc args h => ?_⟩, ff, fun a q => ?_, g.dom, fun j d h => ?_⟩, cl' vs (fun _ h => h) cl⟩
  · by_cases hj : j ∈ vs
    · rw [rstS_in hl hj] at h
      obtain ⟨v, e1, e2⟩ := R.val j d h
      exact ⟨v, e1, e2.mono (fun b o q n => ff b o q fun z => n (.inr z)) z0⟩
    · rw [rstS_out hj] at h
      obtain ⟨v, e1, e2⟩ := g.rel.val j d h
      exact ⟨v, by rw [← so j hj]; exact e1, e2.weak zz⟩
  · by_cases hj : j ∈ vs
    · rw [rstS_in hl hj] at h
      exact absurd h ((clean_in cl j hj).1 p d)
    · rw [rstS_out hj] at h
      obtain ⟨a, e1, ⟨ds, xs, r1, r2, r3⟩, e3⟩ := g.rel.own j p d h
      exact ⟨a, by rw [← so j hj]; exact e1, ⟨ds, xs, r1, r2, r3.weak zz⟩, e3⟩
  · have hi : i ∉ vs := fun hi => by rw [rstS_in hl hi] at h1; exact (clean_in cl i hi).1 p d h1
    have hj : j ∉ vs := fun hj => by rw [rstS_in hl hj] at h2; exact (clean_in cl j hj).1 q e h2
    rw [rstS_out hi] at h1
    rw [rstS_out hj] at h2
    exact g.rel.inj i j p q d e a h1 h2 (by rw [so i hi]; exact h3) (by rw [so j hj]; exact h4)
  · by_cases hj : j ∈ vs
    · rw [rstS_in hl hj] at h
      exact absurd h ((clean_in cl j hj).2.1 cc args)
    · rw [rstS_out hj] at h
      obtain ⟨v, e1, e2⟩ := g.rel.exn j cc args h
      exact ⟨v, by rw [← so j hj]; exact e1, e2⟩
  · rcases g.ex a (ex a q) with z | z
    · exact .inl ((exc_wipe cl a).mp z)
    · exact .inr z
  · by_cases hj : j ∈ vs
    · rw [rstS_in hl hj] at h
      exact absurd h ((clean_in cl j hj).1 true d)
    · rw [rstS_out hj] at h
      obtain ⟨_, d0, q⟩ := g.pin j d h
      rw [wipeS_out hj] at q
      exact ⟨rfl, d0, q⟩
/-- the new list grows -/
theorem rel_grow (hx : XnOk Xn) {p : Addr} {xs ys : List V} (R : Rel K Xn (Apt A p) H0 s σ H) (hp : H p = some (.lst xs)) (n : ¬ exc s σ p) : Rel K Xn (Apt A p) H0 s σ (upd H p (.lst ys)) ∧
    (∀ {v : V} {d : D}, Rp (Zs (Apt A p) s σ) K H v d → Rp (Zs (Apt A p) s σ) K (upd H p (.lst ys)) v d) := by
  have ff : ∀ b o, H b = some o → ¬ Zs (Apt A p) s σ b → (upd H p (.lst ys)) b = some o := fun b o e nz => by
    rw [upd_ne (fun z => nz (.inl (.inr z)))]
    exact e
  have dm : ∀ b, H b ≠ none → (upd H p (.lst ys)) b ≠ none := fun b e => by
    by_cases hb : b = p
    · rw [hb, upd_same]; simp
    · rw [upd_ne hb]; exact e
  refine ⟨⟨R.len, fun a h => dm a (R.dom a h), fun a h => dm a (R.dom0 a h), fun j d h => ?_, fun j q d h => ?_, R.inj, fun j cc args h => ?_⟩, fun h => h.mono ff fun b q => .inl q⟩
  · obtain ⟨v, e1, e2⟩ := R.val j d h
    exact ⟨v, e1, e2.mono ff fun b q => .inl q⟩
  · obtain ⟨a, e1, ⟨ds, zs, r1, r2, r3⟩, e3⟩ := R.own j q d h
    have ha : a ≠ p := fun z => n (z ▸ ⟨j, q, d, h, e1⟩)
    exact ⟨a, e1, ⟨ds, zs, r1, by rw [upd_ne ha]; exact r2, r3.mono ff fun b q => .inl q⟩, e3⟩
  · obtain ⟨v, e1, e2⟩ := R.exn j cc args h
    refine ⟨v, e1, hx _ _ _ _ _ e2 fun b o e no => ?_⟩
    rw [upd_ne (fun z => by rw [z, hp] at e; cases e; exact no xs rfl)]
    exact e
end
section
variable {T : Tx} {Φ : Env} {Xn : XnT} {Xr : XrT} {X : Cx} {c : Cxt}
/-- the block's context -/
theorem Okx.blk (O : Okx X c) (hh : c.hot = false) {sc : Scope} {vs : List Nat} (hb : blkB c sc vs = true) (s : Shared) (H : Hp) (C : Addr) (cl : List (Str × Addr)) (fp : List Addr) : Okx (X.blk s H sc (compEnvC sc cl C X.env) fp) (c.blk sc) := by
  unfold blkB at hb
  simp only [Bool.and_eq_true] at hb
  have hk : sc.kind = .function := by
    have h1 := hb.1.1.1
    cases e : sc.kind <;> rw [e] at h1 <;> first | rfl | cases h1
  have nm : (relabel sc X.env).names = relNm sc.names c.nm := by
    unfold relabel relNm
    have e1 : (X.env.scope.kind == ScopeKind.function) = true := by rw [O.kd]; rfl
    rw [← O.nm]
    simp only [e1, Bool.and_true]
    rfl
  refine ⟨O.N, O.nd, nm, hk, fun x h => ?_, fun _ => ?_, O.hu⟩
  · have h2 : (c.blk sc).fnT = false := rfl
    rw [h2, Bool.false_or] at h
    show (sc.names.lookup x == some NameKind.cell) = true
    have h3 : x ∈ ((sc.names.filter fun y => y.2 == NameKind.cell).map (·.1)) := by simpa [Cxt.blk] using h
    obtain ⟨y, hy, rfl⟩ := List.mem_map.mp h3
    obtain ⟨hy1, hy2⟩ := List.mem_filter.mp hy
    have uq := List.all_eq_true.mp hb.1.1.2 y hy1
    rw [decide_eq_true_eq] at uq
    rw [uq, eq_of_beq hy2]
    rfl
  · exact O.calm hh
theorem Okt.blk (t : Okt X T c Φ Xn Xr) (hh : c.hot = false) {sc : Scope} (s : Shared) (H : Hp) (cenv : PySem.Env) (fp : List Addr) : Okt (X.blk s H sc cenv fp) T (c.blk sc) Φ Xn Xr :=
  ⟨t.xn, t.blt, t.glb, fun _ => t.fn hh, t.xr, ⟨t.e.cl, t.e.xi, t.e.xo, fun _ => t.e.x0 hh, fun z => absurd z Bool.false_ne_true⟩⟩
theorem own_map : ∀ (N : List Str) (vs : List Nat), (ownOf N vs).map (·.2) = vs
  | _, [] => rfl
  | N, v :: vs => by simp [ownOf, own_map N vs]
theorem blk_ok (O : Okx X c) {sc : Scope} {vs : List Nat} (hb : blkB c sc vs = true) : BlkOk X.N X.env.scope sc (ownOf c.N vs) := by
  refine blkOk_by ?_
  unfold blkC
  unfold blkB at hb
  rw [O.nm, O.N]
  exact hb
theorem tgIn_ix : ∀ (vs : List Nat) (tg : Tg), tgIn vs tg = true → ∀ j ∈ tgIx tg, j ∈ vs := by
  intro vs tg
  induction tg using Tg.rec (motive_2 := fun ts => tgIn.tgsIn vs ts = true → ∀ j ∈ tgsIx ts, j ∈ vs) with
  | nm i =>
    intro h j hj
    simp only [tgIn] at h
    simp only [tgIx, List.mem_singleton] at hj
    subst hj
    simpa using h
  | tp ts ih =>
    intro h j hj
    simp only [tgIn] at h
    simp only [tgIx] at hj
    exact ih h j hj
  | nil =>
    rename_i h j hj
    simp [tgsIx] at hj
  | cons t ts ih1 ih2 =>
    rename_i h j hj
    simp only [tgIn.tgsIn, Bool.and_eq_true] at h
    simp only [tgsIx, List.mem_append] at hj
    rcases hj with hj | hj
    · exact ih1 h.1 j hj
    · exact ih2 h.2 j hj
def SndC (T : Tx) (Φ : Env) (Xn : XnT) (Xr : XrT) (eo : Eo) : Prop := match eo with
  | .no => True
  | .so e => SndT T Φ Xn Xr e
/-- a comprehension's reading -/
theorem lc_read {elt : E} {tg : Tg} {it : It} {cond : Eo} {vs : List Nat} (hel : SndE T Φ Xn Xr elt) (hit : SndI T Φ Xn Xr it) (hco : SndC T Φ Xn Xr cond) (O : Okx X c) (t : Okt X T c Φ Xn Xr) {elt' tg' it' : Expr} {ifs : List Expr} {k : Int} {sc : Scope} {pos : Pos}
    (ck : chkE T c (.lc elt tg it cond vs) (.ListComp elt' [⟨tg', it', ifs, k⟩] sc pos) = true) {W : WX} (tk : Takes X W) {A : Addr → Prop} {H0 : Hp} {s : Sl} {σ : L2.St} {H : Hp} (R : Rel X.K Xn A H0 s σ H) {Q : VK} (h : Out X.K Xn Xr A H0 s σ H W (ev Φ (.lc elt tg it cond vs) s) Q) :
    k = 0 ∧ X.calm = true ∧ (∀ x, foldedSetIterable it' X.env x = pure x) ∧ BlkOk X.N X.env.scope sc (ownOf c.N vs) ∧ ∃ (wi : TI) (g : TG) (tt : TT) (te : TE), PI X tg' it' wi ∧
      (∀ (s : Shared) (H : Hp) (C : Addr) (cl : List (Str × Addr)) (fp : List Addr), PG (X.blk s H sc (compEnvC sc cl C X.env) fp) tg' g) ∧
      (∀ (s : Shared) (H : Hp) (C : Addr) (cl : List (Str × Addr)) (fp : List Addr), PTs (X.blk s H sc (compEnvC sc cl C X.env) fp) ifs tt) ∧
      (∀ (s : Shared) (H : Hp) (C : Addr) (cl : List (Str × Addr)) (fp : List Addr), PE (X.blk s H sc (compEnvC sc cl C X.env) fp) elt' te) ∧ tLc wi g tt te ((ownOf c.N vs).map (·.2)) σ H Q := by
  simp only [chkE, Bool.and_eq_true, Bool.not_eq_true', decide_eq_true_eq] at ck
  obtain ⟨⟨⟨⟨⟨⟨⟨⟨hh, rfl⟩, hb⟩, hin⟩, cg⟩, ns⟩, ci⟩, cc⟩, ce⟩ := ck
  have hfs : ∀ x, foldedSetIterable it' X.env x = pure x := by
    cases it' <;> first | (intro x; rfl) | (cases it <;> simp only [chkI, Bool.false_eq_true] at ci <;> (rename_i e; cases e <;> simp [chkE] at ci))
  refine ⟨rfl, O.calm hh, hfs, blk_ok O hb, ?_⟩
  rw [ev] at h
  have Ob := fun (s : Shared) (H : Hp) (C : Addr) (cl : List (Str × Addr)) (fp : List Addr) => O.blk hh hb s H C cl fp
  have tb := fun (s : Shared) (H : Hp) (C : Addr) (cl : List (Str × Addr)) (fp : List Addr) => t.blk hh (sc := sc) s H (compEnvC sc cl C X.env) fp
  -- the parts' readings, for every block
  let g : TG := fun v σ H Q => ∀ (s : Shared) (H' : Hp) (C : Addr) (cl : List (Str × Addr)) (fp : List Addr), wpG (X.blk s H' sc (compEnvC sc cl C X.env) fp) tg' v σ H Q
  let tt : TT := fun σ H Q => ∀ (s : Shared) (H' : Hp) (C : Addr) (cl : List (Str × Addr)) (fp : List Addr), ∃ t : TT, PTs (X.blk s H' sc (compEnvC sc cl C X.env) fp) ifs t ∧ t σ H Q
  let te : TE := fun σ H Q => ∀ (s : Shared) (H' : Hp) (C : Addr) (cl : List (Str × Addr)) (fp : List Addr), wpE (X.blk s H' sc (compEnvC sc cl C X.env) fp) elt' σ H Q
  have pg : ∀ (s : Shared) (H : Hp) (C : Addr) (cl : List (Str × Addr)) (fp : List Addr), PG (X.blk s H sc (compEnvC sc cl C X.env) fp) tg' g := fun s H C cl fp => ⟨fun pins s1 σ H1 v u Q I r q => q s H C cl fp pins s1 u I r⟩
  have pt : ∀ (s : Shared) (H : Hp) (C : Addr) (cl : List (Str × Addr)) (fp : List Addr), PTs (X.blk s H sc (compEnvC sc cl C X.env) fp) ifs tt := fun s H C cl fp => ⟨fun pins s1 σ H1 Q I q => let ⟨t, p, q⟩ := q s H C cl fp; p.run pins s1 σ H1 Q I q⟩
  have pe : ∀ (s : Shared) (H : Hp) (C : Addr) (cl : List (Str × Addr)) (fp : List Addr), PE (X.blk s H sc (compEnvC sc cl C X.env) fp) elt' te := fun s H C cl fp => ⟨fun pins s1 σ H1 Q I q => q s H C cl fp pins s1 I⟩
  suffices key : ∀ (J : L2.It) (H1 : Hp), (match evIt Φ it s with
      | .ok ds s1 => Go X.K Xn A H0 s σ H s1 σ H1 → ItOk X.K A s1 σ H1 J ds → ∀ D, H1 D = none → ∃ W : Nat → Nat → Hp → Prop, (∃ m, W 0 m (upd H1 D (.lst []))) ∧ ∀ i m H, W i m H →
        (J.stop i H ∧ Q (.ref D) H) ∨ (J.go i H ∧ ∃ Nx : Hp → Prop, (∀ H', Nx H' → ∃ m', m' < m ∧ W (i + 1) m' H') ∧ ∀ x H', J.yld i H x H' → g x (wipe σ vs) H' fun σ2 H2 => wipe σ2 vs = wipe σ vs ∧ tt σ2 H2 fun b H3 =>
          if b = true then te σ2 H3 fun y H4 => ∃ acc, H4 D = some (.lst acc) ∧ acc.length < sizeLine ∧ Nx (upd H4 D (.lst (acc ++ [y]))) else Nx H3)
      | _ => True) by
    have hI : ∃ wi : TI, PI X tg' it' wi ∧ wi σ H (fun J H1 => ∀ D, H1 D = none → ∃ W : Nat → Nat → Hp → Prop, (∃ m, W 0 m (upd H1 D (.lst []))) ∧ ∀ i m H, W i m H →
        (J.stop i H ∧ Q (.ref D) H) ∨ (J.go i H ∧ ∃ Nx : Hp → Prop, (∀ H', Nx H' → ∃ m', m' < m ∧ W (i + 1) m' H') ∧ ∀ x H', J.yld i H x H' → g x (wipe σ vs) H' fun σ2 H2 => wipe σ2 vs = wipe σ vs ∧ tt σ2 H2 fun b H3 =>
          if b = true then te σ2 H3 fun y H4 => ∃ acc, H4 D = some (.lst acc) ∧ acc.length < sizeLine ∧ Nx (upd H4 D (.lst (acc ++ [y]))) else Nx H3)) := by
      refine hit X c tg' it' O t ci W tk A H0 s σ H R _ ?_
      cases ei : evIt Φ it s with
      | no => rw [ei] at h; exact h.elim
      | ex cc args s1 => rw [ei] at h; exact fun cls dx H' g r => h cls dx H' g r
      | ok ds s1 =>
        intro J H1 g1 io
        have q := key J H1
        rw [ei] at q
        exact q g1 io
    obtain ⟨wi, p, q⟩ := hI
    rw [own_map]
    exact ⟨wi, g, tt, te, p, pg, pt, pe, q⟩
  intro J H1
  cases ei : evIt Φ it s with
  | no => trivial
  | ex cc args s1 => trivial
  | ok ds s1 =>
    rw [ei] at h
    dsimp only at h ⊢
    intro g1 io D hD
    split at h
    · rename_i cl0
      split at h
      · rename_i acc sF el
        obtain ⟨G, Y, wk, hG, hY⟩ := io
        have hx := t.xn
        have e1 : ∀ b u, H1 b = some u → (upd H1 D (.lst [])) b = some u := fun b u q => by rw [upd_ne (ne_of_none q hD)]; exact q
        have nD : ¬ exc s1 σ D := fun q => by
          obtain ⟨ys, q⟩ := g1.rel.exc_lst q
          rw [hD] at q; cases q
        refine lc_it wk (fun i Hc => ∃ si ai av, lcGo vs (bindD tg) (fun s => evC Φ cond s) (fun s => ev Φ elt s) (ds.drop i) ai si = .ok acc sF ∧ Rel X.K Xn (Apt A D) H0 si σ Hc ∧ Hc D = some (.lst av) ∧ RpAll (Zs (Apt A D) si σ) X.K Hc av ai ∧ clean si vs = true ∧
          ¬ exc si σ D ∧ (∀ b o, H1 b = some o → ¬ exc s1 σ b → Hc b = some o) ∧ (∀ a, exc si σ a → exc s1 σ a ∨ H1 a = none) ∧ (∀ a, H1 a ≠ none → Hc a ≠ none) ∧ ∀ (j : Nat) (d : Mi.D), si[j]? = some (Slot.own true d) → ∃ d0 : Mi.D, s1[j]? = some (Slot.own true d0))
          ⟨s1, [], [], el, g1.rel.apart hx hD, upd_same, .nil, cl0, nD, fun b o q _ => e1 b o q, fun a q => .inl q, fun a q => ?_, fun j d q => ⟨d, q⟩⟩ (fun i Hc _ ⟨si, ai, av, _, _, _, _, _, _, f, _⟩ => hG Hc f) ?_ ?_
        · cases z : H1 a with
          | none => exact absurd z q
          | some o => rw [e1 a o z]; simp
        · -- a turn
          rintro i x Hc Hc' hi ⟨si, ai, av, el, Ri, hDi, ri, cli, nDi, fr, ex, dm, pn⟩ y
          have hd : ds[i]? = some ds[i] := List.getElem?_eq_getElem hi
          rw [List.drop_eq_getElem_cons hi, lcGo] at el
          obtain ⟨xe, rx⟩ := hY i Hc x Hc' (Zs (Apt A D) si σ) ds[i] fr (fun b q => by
            rcases q with (q | q) | q
            · exact .inl (.inl q)
            · exact .inr (by rw [q]; exact hD)
            · rcases ex b q with z | z
              · exact .inl (.inr z)
              · exact .inr z) (fun b q => by
            rcases q with q | q
            · exact Ri.dom b q
            · obtain ⟨ys, q⟩ := Ri.exc_lst q
              rw [q]; simp) y hd
          have g0 := Ri.goExt hx xe
          have Rw : Rel X.K Xn (Apt A D) H0 (wipeS si vs) (wipe σ vs) Hc' := rel_wipe g0.rel vs
          have gw : Go X.K Xn (Apt A D) H0 (wipeS si vs) (wipe σ vs) Hc (wipeS si vs) (wipe σ vs) Hc' := (rel_wipe Ri vs).goExt hx xe
          have rxw : Rp (Zs (Apt A D) (wipeS si vs) (wipe σ vs)) X.K Hc' x ds[i] := rx.weak fun b q => by
            rcases q with q | q
            · exact .inl q
            · exact .inr ((exc_wipe cli b).mp q)
          split at el
          · cases el
          · rename_i sb eb
            -- the target
            intro sS sH C cl fp
            refine snd_tg (c := c.blk sc) tg (Ob sS sH C cl fp) cg (A := Apt A D) (H0 := H0) Rw rxw eb _ fun σ2 g2 si2 => ?_
            have hw2 : wipe σ2 vs = wipe σ vs := (si2.2 vs (tgIn_ix vs tg hin)).trans (wipe_wipe vs)
            refine ⟨hw2, ?_⟩
            -- what is left of a turn
            have fin : ∀ {s4 : Sl} {H4 : Hp}, Go X.K Xn (Apt A D) H0 (wipeS si vs) (wipe σ vs) Hc s4 σ2 H4 → (RpAll (Zs (Apt A D) (rstS si s4 vs) σ) X.K H4 av ai ∧ H4 D = some (.lst av) ∧ Rel X.K Xn (Apt A D) H0 (rstS si s4 vs) σ H4 ∧ clean (rstS si s4 vs) vs = true ∧ ¬ exc (rstS si s4 vs) σ D ∧
                (∀ b o, H1 b = some o → ¬ exc s1 σ b → H4 b = some o) ∧ (∀ a, exc (rstS si s4 vs) σ a → exc s1 σ a ∨ H1 a = none) ∧ (∀ a, H1 a ≠ none → H4 a ≠ none) ∧ ∀ (j : Nat) (d : Mi.D), (rstS si s4 vs)[j]? = some (Slot.own true d) → ∃ d0 : Mi.D, s1[j]? = some (Slot.own true d0)) := fun {s4 H4} g4 => by
              obtain ⟨gr, clr⟩ := rel_rst hx cli Ri g4 hw2
              refine ⟨gr.rpAll ri, gr.fr D _ hDi nDi, gr.rel, clr, fun q => ?_, fun b o q n => gr.fr b o (fr b o q n) fun z => ?_, fun a q => ?_, fun a q => gr.dom a (dm a q), fun j d q => (gr.pin j d q).2.elim fun d0 q0 => pn j d0 q0⟩
              · rcases gr.ex D q with z | z
                · exact nDi z
                · rw [hDi] at z; cases z
              · rcases ex b z with w | w
                · exact n w
                · rw [q] at w; cases w
              · rcases gr.ex a q with z | z
                · exact ex a z
                · refine .inr ?_
                  cases w : H1 a with
                  | none => rfl
                  | some o => exact absurd z (dm a (by rw [w]; simp))
            have g02 := gw.trans g2
            have goEl : ∀ {s2 : Sl} {H2 : Hp}, Go X.K Xn (Apt A D) H0 (wipeS si vs) (wipe σ vs) Hc s2 σ2 H2 → (match ev Φ elt s2 with
                | .ok v s3 => match esc s3 v with
                  | some (d', s4) => if decide (ai.length < sizeLine) then lcGo vs (bindD tg) (fun s => evC Φ cond s) (fun s => ev Φ elt s) (ds.drop (i + 1)) (ai ++ [d']) (rstS si s4 vs) else .no
                  | none => .no
                | _ => .no) = .ok acc sF → te σ2 H2 fun y H4 => ∃ acc', H4 D = some (.lst acc') ∧ acc'.length < sizeLine ∧ ∃ si ai av, lcGo vs (bindD tg) (fun s => evC Φ cond s) (fun s => ev Φ elt s) (ds.drop (i + 1)) ai si = .ok acc sF ∧ Rel X.K Xn (Apt A D) H0 si σ (upd H4 D (.lst (acc' ++ [y]))) ∧ (upd H4 D (.lst (acc' ++ [y]))) D = some (.lst av) ∧ RpAll (Zs (Apt A D) si σ) X.K (upd H4 D (.lst (acc' ++ [y]))) av ai ∧ clean si vs = true ∧
                  ¬ exc si σ D ∧ (∀ b o, H1 b = some o → ¬ exc s1 σ b → (upd H4 D (.lst (acc' ++ [y]))) b = some o) ∧ (∀ a, exc si σ a → exc s1 σ a ∨ H1 a = none) ∧ (∀ a, H1 a ≠ none → (upd H4 D (.lst (acc' ++ [y]))) a ≠ none) ∧ ∀ (j : Nat) (d : Mi.D), si[j]? = some (Slot.own true d) → ∃ d0 : Mi.D, s1[j]? = some (Slot.own true d0) := by
              intro s2 H2 gg eq
              intro sS sH C cl fp
              refine hel (X.blk sS sH sc (compEnvC sc cl C X.env) fp) (c.blk sc) elt' (Ob sS sH C cl fp) (tb sS sH C cl fp) ce _ takes0 (Apt A D) H0 s2 σ2 H2 gg.rel _ ?_
              cases ee : ev Φ elt s2 with
              | no => rw [ee] at eq; cases eq
              | ex cc args s3 => rw [ee] at eq; cases eq
              | ok v s3 =>
                rw [ee] at eq
                dsimp only at eq
                intro yv H4 g4 r4
                split at eq
                · rename_i d' s4 e4
                  obtain ⟨g5, r5⟩ := esc_ok g4.rel r4.late e4
                  split at eq
                  · rename_i hlen
                    obtain ⟨f1, f2, f3, f4, f5, f6, f7, f8, f9⟩ := fin ((gg.trans g4).trans g5)
                    obtain ⟨rg, gro⟩ := rel_grow (ys := av ++ [yv]) hx f3 f2 f5
                    have ry : Rp (Zs (Apt A D) (rstS si s4 vs) σ) X.K H4 yv d' := r5.weak fun b q => by
                      rcases q with q | ⟨j, p, d, h1, h2⟩
                      · exact .inl q
                      · refine .inr ?_
                        by_cases hj : j ∈ vs
                        · have hl : si.length = s4.length := by
                            have a1 := ((gg.trans g4).trans g5).rel.len
                            have a2 : (wipe σ2 vs).length = (wipe σ vs).length := by rw [hw2]
                            rw [wipe_length, wipe_length] at a2
                            rw [Ri.len, a1, a2]
                          rw [rstS_in hl hj] at h1
                          exact absurd h1 ((clean_in cli j hj).1 p d)
                        · rw [rstS_out hj] at h1
                          refine ⟨j, p, d, h1, ?_⟩
                          rw [← wipe_out' (σ := σ2) hj, hw2, wipe_out' hj]
                          exact h2
                    refine ⟨av, f2, by rw [ri.length]; exact of_decide_eq_true hlen, rstS si s4 vs, ai ++ [d'], av ++ [yv], eq, rg, upd_same, ?_, f4, f5, fun b o q n => ?_, f7, fun a q => ?_, f9⟩
                    · have : ∀ {us : List V} {ds : List PyData}, RpAll (Zs (Apt A D) (rstS si s4 vs) σ) X.K H4 us ds → RpAll (Zs (Apt A D) (rstS si s4 vs) σ) X.K (upd H4 D (.lst (av ++ [yv]))) us ds := fun h => h.mono (fun b o e nz => by
                        rw [upd_ne (fun z => nz (.inl (.inr z)))]
                        exact e) fun b q => .inl q
                      exact this (f1.append (.cons ry .nil))
                    · rw [upd_ne (ne_of_none q hD)]
                      exact f6 b o q n
                    · by_cases ha : a = D
                      · rw [ha, upd_same]; simp
                      · rw [upd_ne ha]; exact f8 a q
                  · cases eq
                · cases eq
            cases cond with
            | no =>
              have eI : ifs = [] := by cases ifs <;> first | rfl | simp [chkC] at cc
              subst eI
              simp only [evC] at el
              intro sS sH C cl fp
              refine ⟨tYes, pts_nil, ?_⟩
              unfold tYes
              dsimp only
              rw [if_pos rfl]
              exact goEl g02 el
            | so ec =>
              have hone : ∃ pc, ifs = [pc] := by
                match ifs, cc with
                | [pc], _ => exact ⟨pc, rfl⟩
                | [], cc => simp [chkC] at cc
                | _ :: _ :: _, cc => simp [chkC] at cc
              obtain ⟨pc, hpc⟩ := hone
              · have cc : chkE T (c.blk sc) ec pc = true := by
                  rw [hpc] at cc
                  simpa only [chkC] using cc
                intro sS sH C cl fp
                refine ⟨wpT (X.blk sS sH sc (compEnvC sc cl C X.env) fp) pc, by rw [hpc]; exact pts_one pt_w, ?_⟩
                refine hco (X.blk sS sH sc (compEnvC sc cl C X.env) fp) (c.blk sc) pc (Ob sS sH C cl fp) (tb sS sH C cl fp) cc _ takes0 (Apt A D) H0 sb σ2 Hc' g02.rel _ ?_
                simp only [evC] at el
                cases ee : ev Φ ec sb with
                | no => rw [ee] at el; cases el
                | ex c2 args s3 => rw [ee] at el; cases el
                | ok v s3 =>
                  rw [ee] at el
                  cases v with
                  | nw d => cases el
                  | br j => cases el
                  | dt d =>
                    cases d <;> try (cases el; done)
                    rename_i b
                    intro H3 g3
                    cases b with
                    | true =>
                      rw [if_pos rfl]
                      exact goEl (g02.trans g3) el
                    | false =>
                      rw [if_neg Bool.false_ne_true]
                      obtain ⟨f1, f2, f3, f4, f5, f6, f7, f8, f9⟩ := fin (g02.trans g3)
                      exact ⟨rstS si s3 vs, ai, av, el, f3, f2, f1, f4, f5, f6, f7, f8, f9⟩
        · -- the end
          rintro Hc ⟨si, ai, av, el, Ri, hDi, ri, cli, nDi, fr, ex, dm, pn⟩
          rw [List.drop_length, lcGo] at el
          cases el
          have nA : ¬ A D := fun q => g1.rel.dom D q hD
          have Rf : Rel X.K Xn A H0 sF σ Hc := Ri.unapart fun i d h1 h2 => nDi ⟨i, true, d, h1, h2⟩
          have gf : Go X.K Xn A H0 s1 σ H1 sF σ Hc := ⟨Rf, fr, ex, dm, fun j d q => ⟨rfl, pn j d q⟩⟩
          refine h _ Hc (g1.trans gf) ⟨D, rfl, g1.none_of hD, Ri, ⟨acc, av, rfl, hDi, ri⟩, nDi, nA⟩
      · exact h.elim
    · exact h.elim
theorem snd_lc {elt : E} {tg : Tg} {it : It} {cond : Eo} {vs : List Nat} (hel : SndE T Φ Xn Xr elt) (hit : SndI T Φ Xn Xr it) (hco : SndC T Φ Xn Xr cond) : SndE T Φ Xn Xr (.lc elt tg it cond vs) := by
  intro X c pe O t ck W tk A H0 s σ H R Q h
  cases pe <;> try (simp only [chkE, Bool.false_eq_true] at ck; done)
  rename_i elt' gs sc pos
  match gs, ck with
  | [⟨tg', it', ifs, k⟩], ck =>
    obtain ⟨rfl, hc, hs, ok, wi, g, tt, te, p1, p2, p3, p4, q⟩ := lc_read hel hit hco O t ck tk R h
    exact of_pe (pe_lc hc O.nd p1 ok p2 p3 p4 hs) q
  | [], ck => simp [chkE] at ck
  | _ :: _ :: _, ck => simp [chkE] at ck
end
end Mi

/-! Mi12: all expressions; statements without errors. -/
namespace Mi
open PySem PySem.Spec PyProof.Rows L2
section
variable {T : Tx} {Φ : Env} {Xn : XnT} {Xr : XrT}
theorem snd_bad {e : E} (h : ∀ (T : Tx) (c : Cxt) pe, chkE T c e pe = false) : SndE T Φ Xn Xr e := by
  intro X c pe O t ck
  rw [h] at ck
  cases ck
theorem snd_isE {i : Nat} {cs : List Nat} : SndE T Φ Xn Xr (.isE i cs) := by
  intro X c pe O t ck W tk A H0 s σ H R Q h
  cases pe <;> try (simp only [chkE, Bool.false_eq_true] at ck; done)
  rename_i fe as kws pos
  cases fe <;> try (simp only [chkE, Bool.false_eq_true] at ck; done)
  rename_i f p
  match as, kws, ck with
  | [n', x'], [], ck =>
    cases n' <;> try (simp only [chkE, Bool.false_eq_true] at ck; done)
    cases x' <;> try (simp only [chkE, Bool.false_eq_true] at ck; done)
    rename_i nn np x xp
    simp only [chkE, Bool.and_eq_true, decide_eq_true_eq] at ck
    obtain ⟨⟨⟨⟨⟨⟨hc, rfl⟩, hg⟩, hN⟩, hv⟩, hk⟩, hg2⟩ := ck
    match cs, hk with
    | [k], hk =>
      have hk : T.cls[k]? = some x := of_decide_eq_true hk
      obtain ⟨v1, v2, v3⟩ := O.vis hv
      obtain ⟨g1, g2, g3⟩ := O.gl hg
      obtain ⟨k1, k2, k3⟩ := O.gl hg2
      have hm := t.blt _ (show ("isinstance" : Str) ∈ blts by decide +kernel)
      have pv : PE X (.Name nn np) (tVar i) := pe_var (i := i) (by rw [O.N]; exact hN) v1 v2 v3
      rw [ev] at h
      split at h
      · rename_i c0 a0 hs0
        obtain ⟨v, e1, e2⟩ := R.exn i c0 a0 hs0
        obtain ⟨X', a, oe, pn, y, D, rfl, rfl, hz, hf, hy, hmy⟩ := t.e.x1 hc _ _ _ _ e2
        obtain ⟨cv, hcv, hq⟩ := t.e.cl.val k x hk
        obtain ⟨_, hkit, hexc⟩ := hq c0 y D hy hmy
        have hb : ([k].any fun k => Φ.under k c0) = Φ.under k c0 := by simp
        rw [hb] at h
        rcases hcv with ⟨hmx, C, rfl⟩ | ⟨hmx, rfl, rfl⟩
        · exact of_pe (pe_callB (call_isE hexc hz hf) g1 hm (by decide +kernel) (pa_cons pv (pa_cons (pe_glob (v := .ref C) k1 hmx rfl k2) pa_nil)) g3 g2)
            ⟨_, e1, .ref C, .ref C, _, rfl, fun u r => r, hkit, h _ H (Go.refl R) (.bl _)⟩
        · exact of_pe (pe_callB (call_isE hexc hz hf) g1 hm (by decide +kernel) (pa_cons pv (pa_cons (pe_bltn (v := .ty "ValueError") k1 hmx (by decide +kernel) rfl k3 k2) pa_nil)) g3 g2)
            ⟨_, e1, .ty "ValueError", .type "ValueError", _, rfl, fun u r => r, hkit, h _ H (Go.refl R) (.bl _)⟩
      · exact h.elim
  | [], _, ck => simp [chkE] at ck
  | [_], _, ck => simp [chkE] at ck
  | _ :: _ :: _ :: _, _, ck => simp [chkE] at ck
  | [n', x'], _ :: _, ck => cases n' <;> cases x' <;> simp [chkE] at ck
theorem snds_of : ∀ {es : Es}, AllE (SndE T Φ Xn Xr) es → SndEs T Φ Xn Xr es
  | .nil, _ => snds_nil
  | .cons _ _, h => snds_cons h.1 (snds_of h.2)
mutual
theorem snd : ∀ e : E, SndE T Φ Xn Xr e ∧ SndT T Φ Xn Xr e
  | .int i => ⟨snd_int, tst_plain snd_int fun T c pe h => by cases pe <;> first | rfl | simp [chkE] at h⟩
  | .bl b => ⟨snd_bl, tst_plain snd_bl fun T c pe h => by cases pe <;> first | rfl | simp [chkE] at h⟩
  | .non => ⟨snd_non, tst_plain snd_non fun T c pe h => by cases pe <;> first | rfl | simp [chkE] at h⟩
  | .str x => ⟨snd_str, tst_plain snd_str fun T c pe h => by cases pe <;> first | rfl | simp [chkE] at h⟩
  | .var i => ⟨snd_var, tst_plain snd_var fun T c pe h => by cases pe <;> first | rfl | simp [chkE] at h⟩
  | .glb k => ⟨snd_glb, tst_plain snd_glb fun T c pe h => by cases pe <;> first | rfl | simp [chkE] at h⟩
  | .bin op a b => ⟨snd_bin (snd a).1 (snd b).1, tst_plain (snd_bin (snd a).1 (snd b).1) fun T c pe h => by cases pe <;> first | rfl | simp [chkE] at h⟩
  | .neg a => ⟨snd_neg (snd a).1, tst_plain (snd_neg (snd a).1) fun T c pe h => by
      cases pe <;> first | rfl | (simp [chkE] at h; done) | (rename_i o x p; cases o <;> first | rfl | (simp [chkE] at h))⟩
  | .not a => ⟨snd_not (snd a).1, tst_not (snd a).2⟩
  | .cmp op a b => ⟨snd_cmp (snd a).1 (snd b).1, tst_cmp (snd a).1 (snd b).1⟩
  | .chain op op' a b d => ⟨snd_bad fun T c pe => by cases pe <;> simp [chkE], fun X c pe O t ck => by cases pe <;> simp [chkE] at ck⟩
  | .and es => ⟨snd_and (sndA es).1, tst_and (sndA es).2⟩
  | .or es => ⟨snd_or (sndA es).1, tst_or (sndA es).2⟩
  | .ifx t a b => ⟨snd_bad fun T c pe => by cases pe <;> simp [chkE], fun X c pe O t ck => by cases pe <;> simp [chkE] at ck⟩
  | .tup es => ⟨snd_tup (snds_of (sndA es).1), tst_plain (snd_tup (snds_of (sndA es).1)) fun T c pe h => by cases pe <;> first | rfl | simp [chkE] at h⟩
  | .lst es => ⟨snd_lst (snds_of (sndA es).1), tst_plain (snd_lst (snds_of (sndA es).1)) fun T c pe h => by cases pe <;> first | rfl | simp [chkE] at h⟩
  | .ix a b => ⟨snd_ix (snd a).1 (snd b).1, tst_plain (snd_ix (snd a).1 (snd b).1) fun T c pe h => by cases pe <;> first | rfl | simp [chkE] at h⟩
  | .slc a lo hi => ⟨snd_slc (snd a).1 (sndO lo).1 (sndO hi).1, tst_plain (snd_slc (snd a).1 (sndO lo).1 (sndO hi).1) fun T c pe h => by cases pe <;> first | rfl | simp [chkE] at h⟩
  | .rev a lo hi => ⟨snd_rev (snd a).1, tst_plain (snd_rev (snd a).1) fun T c pe h => by cases pe <;> first | rfl | simp [chkE] at h⟩
  | .call f es dv => ⟨snd_call (snds_of (sndA es).1), tst_plain (snd_call (snds_of (sndA es).1)) fun T c pe h => by cases pe <;> first | rfl | simp [chkE] at h⟩
  | .blt b es => ⟨snd_blt (snds_of (sndA es).1), tst_plain (snd_blt (snds_of (sndA es).1)) fun T c pe h => by cases pe <;> first | rfl | simp [chkE] at h⟩
  | .isT e t => ⟨snd_isT (snd e).1, tst_plain (snd_isT (snd e).1) fun T c pe h => by cases pe <;> first | rfl | simp [chkE] at h⟩
  | .isE i cs => ⟨snd_isE, tst_plain snd_isE fun T c pe h => by cases pe <;> first | rfl | simp [chkE] at h⟩
  | .fld i j => ⟨snd_bad fun T c pe => by cases pe <;> simp [chkE], fun X c pe O t ck => by cases pe <;> simp [chkE] at ck⟩
  | .lc elt tg it cond vs => ⟨snd_lc (snd elt).1 (sndI it) (sndO cond).2, tst_plain (snd_lc (snd elt).1 (sndI it) (sndO cond).2) fun T c pe h => by cases pe <;> first | rfl | simp [chkE] at h⟩
  | .mth m i es => ⟨snd_mth (snds_of (sndA es).1), tst_plain (snd_mth (snds_of (sndA es).1)) fun T c pe h => by cases pe <;> first | rfl | simp [chkE] at h⟩
  | .tx m a b => ⟨snd_tx (snd a).1 (snd b).1, tst_plain (snd_tx (snd a).1 (snd b).1) fun T c pe h => by cases pe <;> first | rfl | simp [chkE] at h⟩
theorem sndA : ∀ es : Es, AllE (SndE T Φ Xn Xr) es ∧ AllE (SndT T Φ Xn Xr) es
  | .nil => ⟨trivial, trivial⟩
  | .cons e es => ⟨⟨(snd e).1, (sndA es).1⟩, ⟨(snd e).2, (sndA es).2⟩⟩
theorem sndO : ∀ eo : Eo, SndO T Φ Xn Xr eo ∧ SndC T Φ Xn Xr eo
  | .no => ⟨sndo_no, trivial⟩
  | .so e => ⟨sndo_so (snd e).1, (snd e).2⟩
theorem sndI : ∀ it : It, SndI T Φ Xn Xr it
  | .e e => sndi_e (snd e).1
  | .rng1 a => sndi_rng1 (snd a).1
  | .rng2 a b => sndi_rng2 (snd a).1 (snd b).1
  | .enm a => sndi_enm (snd a).1
  | .zip a b => sndi_zip (snd a).1 (snd b).1
end
end
end Mi

/-! Mi13: statements. -/
namespace Mi
open PySem PySem.Spec PyProof.Rows L2
def noComp : Expr → Bool
  | .ListComp .. => false
  | .SetComp .. => false
  | .DictComp .. => false
  | _ => true
/-- name = [..] on one line: the model lets the comprehension store -/
def swB (c : Cxt) : Expr → Expr → Bool
  | .Name y py, .ListComp _ _ sc p => (c.nm.lookup y == some NameKind.local) && (py.line == p.line) && !(sc.names.any fun (n, k) => n == y && (k == NameKind.local || k == NameKind.cell))
  | _, _ => false
def swapOk (a b : Expr) : Bool := !([a, b].all (foldedForSure 8)) && !([a, b].all (constantsAlone 8))
theorem dups2 {x y : Str} (h : x ≠ y) : [x, y].eraseDups.length = 2 := by
  have e : (x == y) = false := by simpa using h
  have e' : (y == x) = false := by simpa using Ne.symm h
  unfold List.eraseDups List.eraseDupsBy
  simp only [List.eraseDupsBy.loop, List.any_nil, List.any_cons, e, e', Bool.or_false, List.reverse_cons, List.reverse_nil, List.nil_append, List.length_append, List.length_cons, List.length_nil]
theorem swapped2 {env : PySem.Env} {x y : Str} {px py p p' : Pos} {k k' : Nat} {a b : Expr} (hb : env.blockKind = .function) (k1 : env.kindOf x = some .local) (k2 : env.kindOf y = some .local) (hl : py.line = px.line) (hxy : x ≠ y) (na : noStar a = true) (nb : noStar b = true) (sw : swapOk a b = true) :
    swappedStores [.Tuple [.Name x px, .Name y py] k p] (.Tuple [a, b] k' p') env = pure (some [x, y]) := by
  simp only [swapOk, Bool.and_eq_true, Bool.not_eq_true'] at sw
  have h1 : ∀ f : Expr → Bool, (∀ e, noStar e = true → f e = false) → ¬ [a, b].any f = true := fun f hf => by
    simp [hf a na, hf b nb]
  have h2 : ∀ f : Expr → Option Str, f (.Name x px) = some x → f (.Name y py) = some y → List.filterMap f [Expr.Name x px, Expr.Name y py] = [x, y] := fun f q1 q2 => by
    simp only [List.filterMap_cons, q1, q2, List.filterMap_nil]
  unfold swappedStores
  show (if _ then _ else _) = _
  have h3 : (!(([Expr.Name x px, Expr.Name y py].length == 2 || [Expr.Name x px, Expr.Name y py].length == 3)) || [a, b].length != [Expr.Name x px, Expr.Name y py].length || env.blockKind != .function) = false := by rw [hb]; rfl
  rw [if_neg (by rw [h3]; decide)]
  show (if _ then _ else _) = _
  refine (if_neg (h1 _ fun e he => ?_)).trans ?_
  · cases e <;> first | rfl | cases he
  have key : ∀ names : List Str, names = [x, y] → (if (names.length != [Expr.Name x px, Expr.Name y py].length || names.eraseDups.length != names.length) = true then (pure none : Sem (Option (List Str)))
      else if [a, b].all (foldedForSure 8) = true then pure none
        else if [a, b].all (constantsAlone 8) = true then do
            unsupported "assign.tuple-of-constant-expressions:order-of-the-stores"
            pure (some names)
          else pure (some names)) = pure (some [x, y]) := by
    rintro _ rfl
    rw [if_neg (by rw [dups2 hxy]; exact Bool.false_ne_true), if_neg (by rw [sw.1]; decide), if_neg (by rw [sw.2]; decide)]
  exact key _ (h2 _ (by show (if (env.kindOf x == some NameKind.local && px.line == px.line) = true then some x else none) = some x; rw [k1]; simp) (by show (if (env.kindOf y == some NameKind.local && py.line == px.line) = true then some y else none) = some y; rw [k2, hl]; simp))
def parNm : List Expr → Expr → Option (Str × Pos × Str × Pos × Expr × Expr)
  | [.Tuple [.Name x px, .Name y py] _ _], .Tuple [a', b'] _ _ => some (x, px, y, py, a', b')
  | _, _ => none
def setNm : List Expr → Option (Str × Pos × Expr × Pos)
  | [.Subscript (.Name x px) ix' p] => some (x, px, ix', p)
  | _ => none
theorem of_parNm {tgs : List Expr} {v : Expr} {x y : Str} {px py : Pos} {a' b' : Expr} (h : parNm tgs v = some (x, px, y, py, a', b')) : ∃ k p k' p', tgs = [.Tuple [.Name x px, .Name y py] k p] ∧ v = .Tuple [a', b'] k' p' := by
  unfold parNm at h
  split at h
  · cases h; exact ⟨_, _, _, _, rfl, rfl⟩
  · cases h
theorem of_setNm {tgs : List Expr} {x : Str} {px p : Pos} {ix' : Expr} (h : setNm tgs = some (x, px, ix', p)) : tgs = [.Subscript (.Name x px) ix' p] := by
  unfold setNm at h
  split at h
  · cases h; rfl
  · cases h
def rsNm : Expr → Option Str
  | .Call (.Name x _) [.Constant (.str _) _ _] [] _ => some x
  | _ => none
theorem of_rsNm {e : Expr} {x : Str} (h : rsNm e = some x) : ∃ p m j p2 pos, e = .Call (.Name x p) [.Constant (.str m) j p2] [] pos := by
  unfold rsNm at h
  split at h
  · cases h; exact ⟨_, _, _, _, _, rfl⟩
  · cases h
def hdNm : ExceptHandler → Option (Str × Option Str × Stmt × List Stmt)
  | .ExceptHandler (some (.Name x _)) n (b0 :: suite) _ => some (x, n, b0, suite)
  | _ => none
theorem of_hdNm {h : ExceptHandler} {x : Str} {n : Option Str} {b0 : Stmt} {suite : List Stmt} (e : hdNm h = some (x, n, b0, suite)) : ∃ p pos, h = .ExceptHandler (some (.Name x p)) n (b0 :: suite) pos := by
  unfold hdNm at e
  split at e
  · cases e; exact ⟨_, _, rfl⟩
  · cases e
def hdVar (c : Cxt) : Option Nat → Option Str → Bool
  | some j, some m => decide (c.N[j]? = some m) && (match c.nm.lookup m with | some .local => true | _ => false)
  | none, none => true
  | _, _ => false
mutual
def chkS (T : Tx) (c : Cxt) : S → Stmt → Bool
  | .asg t e, .Assign [tg] v _ => noStar tg && chkG c t tg && chkE T c e v && !(isTup tg && isTup v)
  | .par i j a b, .Assign tgs v _ => match parNm tgs v with
    | some (x, px, y, py, a', b') => !c.hot && decide (c.N[i]? = some x) && decide (c.N[j]? = some y) && decide (i ≠ j) && decide (x ≠ y) && (px.line == py.line) &&
      (match c.nm.lookup x with | some .local => true | _ => false) && (match c.nm.lookup y with | some .local => true | _ => false) && chkE T c a a' && chkE T c b b' && swapOk a' b'
    | none => false
  | .setIx i ix e, .Assign tgs v _ => match setNm tgs with
    | some (x, px, ix', p') => decide (c.N[i]? = some x) && c.vis x && chkE T c ix ix' && noSlice ix' && chkE T c e v
    | none => false
  | .aug i op e, .AugAssign (.Name x _) o v _ => decide (opB op = o) && (match op with | .add => true | .sub => true | _ => false) && decide (c.N[i]? = some x) && c.loc x && chkE T c e v
  | .expr e, .Expr v _ => noComp v && chkE T c e v
  | .ret e, .Return (some v) _ => chkE T c e v
  | .retN, .Return none _ => true
  | .stuck, _ => true
  | .pass, .Pass _ => true
  | .brk, .Break _ => true
  | .cnt, .Continue _ => true
  | .ifs t a b, .If t' a' b' _ => chkE T c t t' && chkSs T c a a' && chkSs T c b b'
  | .whl t b, .While t' b' [] _ => !c.hot && chkE T c t t' && chkSs T c b b'
  | .for_ t it b, .For tg it' b' [] _ => !c.hot && chkG c t tg && chkI T c tg it it' && chkSs T c b b'
  | .raisT k, .Raise (some e) none _ => match rsNm e with
    | some x => !c.hot && decide (T.cls[k]? = some x) && decide (x ≠ ("ValueError" : Str)) && c.gl x
    | none => false
  | .try_ b hs, .Try body hds [] [] _ => !c.hot && chkSs T c b body && chkH T c hs hds
  | _, _ => false
def chkH (T : Tx) (c : Cxt) : Hs → List ExceptHandler → Bool
  | .cons [k] i sb .nil, [h] => match hdNm h with
    | some (x, n, b0, suite) => decide (T.cls[k]? = some x) && c.gl x && hdVar c i n && chkSs T { c with hot := true } sb (b0 :: suite)
    | none => false
  | _, _ => false
def chkSs (T : Tx) (c : Cxt) : Ss → List Stmt → Bool
  | .nil, [] => true
  | .cons s ss, st :: sts => chkS T c s st && chkSs T c ss sts
  | .kuhn b, sts => !c.hot && chkSs T c b sts
  | _, _ => false
end
/-- what a statement needs of its frame -/
structure Oks (X : Cx) : Prop where
  ps : X.calm = true → PassesOwn (model X.prog X.w) X.A X.env X.xe
  hs : X.stack = X.env :: X.outer
  hf : X.env.frame = some X.env.locals
section
variable (K : PySem.W.Frag) (Xn : XnT) (Xr : XrT) (A : Addr → Prop) (H0 : Hp) (s : Sl) (σ : L2.St) (H : Hp) (W : WX)
def RetR (s' : Sl) (σ' : L2.St) (H' : Hp) (nw : Bool) (d : D) (x : V) : Prop := match nw with
  | false => Rp (Zs A s' σ') K H' x d
  | true => ∃ p, x = .ref p ∧ H0 p = none ∧ ¬ A p ∧ OwnOk (Apt A p) K H' p d ∧ ∀ (i : Nat) (d' : D), s'[i]? = some (Slot.own true d') → ∃ a, σ'[i]? = some (some (V.ref a)) ∧ OwnOk (Apt A p) K H' a d'
def SOut (r : Mi.R Fl) (D : Ends) : Prop := match r with
  | .ok .nx s' => ∀ σ' H', Go K Xn A H0 s σ H s' σ' H' → D.nx σ' H'
  | .ok .bk s' => ∀ σ' H', Go K Xn A H0 s σ H s' σ' H' → D.bk σ' H'
  | .ok .ct s' => ∀ σ' H', Go K Xn A H0 s σ H s' σ' H' → D.ct σ' H'
  | .ok (.rt nw d) s' => ∀ x σ' H', Go K Xn A H0 s σ H s' σ' H' → RetR K A H0 s' σ' H' nw d x → D.rt x H'
  | .ex c args s' => ∀ cls dx σ' H', Go K Xn A H0 s σ H s' σ' H' → Xr (Zs A s' σ') c args cls dx H' → W cls dx σ' H'
  | .no => False
end
def SndS (T : Tx) (Φ : Env) (Xn : XnT) (Xr : XrT) (n : Nat) (st : S) : Prop := ∀ (X : Cx) (c : Cxt) (pst : Stmt), Okx X c → Okt X T c Φ Xn Xr → Oks X → chkS T c st pst = true → ∀ (W : WX), Takes X W → ∀ (A : Addr → Prop) (H0 : Hp) (s : Sl) (σ : L2.St) (H : Hp),
  Rel X.K Xn A H0 s σ H → ∀ D : Ends, SOut X.K Xn Xr A H0 s σ H W (run Φ n st s) D → wpS X pst D σ H
def SndSs (T : Tx) (Φ : Env) (Xn : XnT) (Xr : XrT) (n : Nat) (ss : Ss) : Prop := ∀ (X : Cx) (c : Cxt) (psts : List Stmt), Okx X c → Okt X T c Φ Xn Xr → Oks X → chkSs T c ss psts = true → ∀ (W : WX), Takes X W → ∀ (A : Addr → Prop) (H0 : Hp) (s : Sl) (σ : L2.St) (H : Hp),
  Rel X.K Xn A H0 s σ H → ∀ D : Ends, SOut X.K Xn Xr A H0 s σ H W (runs Φ n ss s) D → wpSs X psts D σ H
section
variable {K : PySem.W.Frag} {Xn : XnT} {Xr : XrT} {A : Addr → Prop} {H0 : Hp} {s s1 : Sl} {σ σ1 : L2.St} {H H1 : Hp} {W : WX} {D : Ends}
theorem SOut.cont {r : Mi.R Fl} (g : Go K Xn A H0 s σ H s1 σ1 H1) (h : SOut K Xn Xr A H0 s σ H W r D) : SOut K Xn Xr A H0 s1 σ1 H1 W r D := by
  unfold SOut at h ⊢
  split at h
  · exact fun σ' H' g' => h σ' H' (g.trans g')
  · exact fun σ' H' g' => h σ' H' (g.trans g')
  · exact fun σ' H' g' => h σ' H' (g.trans g')
  · exact fun x σ' H' g' r => h x σ' H' (g.trans g') r
  · exact fun cls dx σ' H' g' r => h cls dx σ' H' (g.trans g') r
  · exact h
theorem SOut.ends {r : Mi.R Fl} {D' : Ends} (h : SOut K Xn Xr A H0 s σ H W r D) (nx : ∀ s', r = .ok .nx s' → ∀ σ' H', Go K Xn A H0 s σ H s' σ' H' → D'.nx σ' H') (bk : ∀ σ' H', D.bk σ' H' → D'.bk σ' H') (ct : ∀ σ' H', D.ct σ' H' → D'.ct σ' H') (rt : ∀ x H', D.rt x H' → D'.rt x H') : SOut K Xn Xr A H0 s σ H W r D' := by
  unfold SOut at h ⊢
  split at h
  · exact nx _ rfl
  · exact fun σ' H' g => bk _ _ (h σ' H' g)
  · exact fun σ' H' g => ct _ _ (h σ' H' g)
  · exact fun x σ' H' g r => rt _ _ (h x σ' H' g r)
  · exact h
  · exact h
theorem Rel.h0 (R : Rel K Xn A H0 s σ H) {p : Addr} (h : H p = none) : H0 p = none := by
  cases q : H0 p with
  | none => rfl
  | some o => exact absurd h (R.dom0 p (by rw [q]; simp))
/-- a new list for a slot -/
theorem go_own (R : Rel K Xn A H0 s σ H) (g : Go K Xn A H0 s σ H s1 σ H1) {d : Mi.D} {x : V} {i : Nat} (r : VR K Xn A H0 s1 σ H H1 (.nw d) x) (hi : canSet s1 i = true) : Go K Xn A H0 s σ H (s1.set i (.own false d)) (σ.set i (some x)) H1 := by
  obtain ⟨p, rfl, hp, Rp', ow, ne, nA⟩ := r
  have hns : ∀ d, s1[i]? ≠ some (Slot.own true d) := fun d q => by
    unfold canSet at hi
    rw [q] at hi
    cases hi
  refine ⟨Rp'.setOwn hns nA (R.h0 hp) ow ne, g.fr, fun a q => ?_, g.dom, fun j e q => ?_⟩
  rotate_left
  · obtain ⟨e1, d0, q1⟩ := pin_set (w := some (V.ref p)) (σ := σ) (fun d' => by intro z; cases z) j e q
    exact ⟨e1, (g.pin j d0 q1).2⟩
  obtain ⟨j, p', d', e1, e2⟩ := q
  by_cases hj : j = i
  · subst hj
    obtain ⟨z, _⟩ := get_set_eq e2
    cases z
    exact .inr hp
  · rw [get_set_ne hj] at e1 e2
    exact g.ex a ⟨j, p', d', e1, e2⟩
end
section
variable {T : Tx} {Φ : Env} {Xn : XnT} {Xr : XrT} {n : Nat}
theorem bind_ok {tg : Tg} {X : Cx} {c : Cxt} {pt : Expr} (O : Okx X c) (ck : chkG c tg pt = true) {A : Addr → Prop} {H0 : Hp} {s s1 s2 : Sl} {σ : L2.St} {H H1 : Hp} {v : Vl} {x : V} (R : Rel X.K Xn A H0 s σ H) (g : Go X.K Xn A H0 s σ H s1 σ H1) (r : VR X.K Xn A H0 s1 σ H H1 v x) (e : bindV tg v s1 = some s2)
    {Q : L2.St → Hp → Prop} (k : ∀ σ', Go X.K Xn A H0 s σ H s2 σ' H1 → Q σ' H1) : wpG X pt x σ H1 Q := by
  have gen : ∀ (d : Mi.D) (s3 : Sl), esc s1 v = some (d, s3) → bindD tg d s3 = some s2 → wpG X pt x σ H1 Q := fun d s3 e1 e2 => by
    obtain ⟨g2, r2⟩ := esc_ok g.rel r.late e1
    exact snd_tg tg O ck g2.rel r2 e2 Q fun σ' g3 _ => k σ' ((g.trans g2).trans g3)
  unfold bindV at e
  split at e
  · rename_i i d
    split at e
    · rename_i hi
      cases e
      cases pt <;> simp only [chkG, Bool.false_eq_true] at ck
      rename_i y pos
      simp only [Bool.and_eq_true, decide_eq_true_eq] at ck
      obtain ⟨h1, h2⟩ := O.loc ck.2
      exact of_pg (pg_name (i := i) O.nd (by rw [O.N]; exact ck.1) h1 h2) (k _ (go_own R g r hi))
    · cases e
  · split at e
    · rename_i d s3 e1
      exact gen d s3 e1 e
    · cases e
theorem bind_nm {i : Nat} {X : Cx} {A : Addr → Prop} {H0 : Hp} {s s1 s2 : Sl} {σ : L2.St} {H H1 : Hp} {v : Vl} {x : V} (R : Rel X.K Xn A H0 s σ H) (g : Go X.K Xn A H0 s σ H s1 σ H1) (r : VR X.K Xn A H0 s1 σ H H1 v x) (e : bindV (.nm i) v s1 = some s2) :
    Go X.K Xn A H0 s σ H s2 (σ.set i (some x)) H1 := by
  have gen : ∀ (d : Mi.D) (s3 : Sl), esc s1 v = some (d, s3) → bindD (.nm i) d s3 = some s2 → Go X.K Xn A H0 s σ H s2 (σ.set i (some x)) H1 := fun d s3 e1 e2 => by
    obtain ⟨g2, r2⟩ := esc_ok g.rel r.late e1
    simp only [bindD] at e2
    split at e2
    · cases e2
      exact (g.trans g2).trans (g2.rel.goVal r2)
    · cases e2
  unfold bindV at e
  split at e
  · rename_i i' d hnm
    cases hnm
    split at e
    · rename_i hi
      cases e
      exact go_own R g r hi
    · cases e
  · split at e
    · rename_i d s3 e1
      exact gen d s3 e1 e
    · cases e
theorem sw_false {X : Cx} {c : Cxt} (O : Okx X c) {tg v : Expr} {l : Nat} (h : swB c tg v = false) (hc : ∀ a b d e f, v ≠ .DictComp a b d e f) (hs : ∀ a b d e, v ≠ .SetComp a b d e) : swapsWithSole [tg] v l X.env = pure false := by
  show swapsWith v (some tg) l X.env = pure false
  cases v <;> first | rfl | (exact absurd rfl (hs _ _ _ _)) | (exact absurd rfl (hc _ _ _ _ _)) | skip
  rename_i elt gs sc p
  cases tg <;> first | rfl | skip
  rename_i y py
  unfold swapsWith
  simp only [swB] at h
  have hb : X.env.blockKind = .function := by unfold PySem.Env.blockKind; rw [O.kd]; rfl
  have hk : X.env.kindOf y = c.nm.lookup y := by unfold PySem.Env.kindOf; rw [O.nm]
  simp only [hb, hk, Expr.pos]
  have e1 : (ScopeKind.function == ScopeKind.function) = true := rfl
  rw [e1, Bool.true_and, h]
theorem sw_true' {X : Cx} {c : Cxt} (O : Okx X c) {y : Str} {py p pos : Pos} {elt : Expr} {gs : List Comprehension} {sc : Scope} {l : Nat} (h : swB c (.Name y py) (.ListComp elt gs sc p) = true) : swapsWith (.ListComp elt gs sc p) (some (.Name y py)) l X.env = pure true := by
  simp only [swB, Bool.and_eq_true, Bool.not_eq_true'] at h
  refine sw_true O.kd ?_ h.1.2 h.2
  rw [O.nm]
  exact eq_of_beq h.1.1
theorem chk_comp {T : Tx} {c : Cxt} {e : E} {pe : Expr} (h : chkE T c e pe = true) : (∀ a b d e f, pe ≠ .DictComp a b d e f) ∧ ∀ a b d e, pe ≠ .SetComp a b d e := by
  constructor
  · rintro a b d e' f rfl
    cases e <;> simp [chkE] at h
  · rintro a b d e' rfl
    cases e <;> simp [chkE] at h
theorem snd_asg {tg : Tg} {e : E} : SndS T Φ Xn Xr n (.asg tg e) := by
  intro X c pst O t ok ck W tk A H0 s σ H R D h
  cases pst <;> try (simp only [chkS, Bool.false_eq_true] at ck; done)
  rename_i tgs v pos
  match tgs, ck with
  | [tg'], ck =>
    simp only [chkS, Bool.and_eq_true, Bool.not_eq_true'] at ck
    obtain ⟨⟨⟨ns, cg⟩, ce⟩, nt⟩ := ck
    have h1 : (assignEach [tg'] X.env).map (·.2) = [assign tg' X.env] := by
      cases tg' <;> first | rfl | cases ns
    have hw : swappedStores [tg'] v X.env = pure none := by
      cases tg' <;> first | rfl | skip
      · cases tg <;> simp [chkG] at cg
      · cases v <;> first | rfl | (simp [isTup] at nt)
    -- the value, then the store
    have rd : Out X.K Xn Xr A H0 s σ H W (ev Φ e s) (fun x H1 => wpG X tg' x σ H1 D.nx) := by
      rw [run] at h
      cases ea : ev Φ e s with
      | no => rw [ea] at h; exact h.elim
      | ex cc args s1 => rw [ea] at h; exact fun cls dx H' g r => h cls dx σ H' g r
      | ok w s1 =>
        rw [ea] at h
        dsimp only at h
        intro x H1 g r
        split at h
        · rename_i s2 e2
          exact bind_ok O cg R g r e2 fun σ' g' => h σ' H1 g'
        · exact h.elim
    cases hsw : swB c tg' v with
    | false =>
      refine of_ps (ps_asg pe_w pg_w (sw_false O hsw (chk_comp ce).1 (chk_comp ce).2) hw h1) ?_
      exact (snd e).1 X c v O t ce W tk A H0 s σ H R _ rd
    | true =>
      cases tg' <;> try (simp only [swB, Bool.false_eq_true] at hsw; done)
      cases v <;> try (simp only [swB, Bool.false_eq_true] at hsw; done)
      rename_i y py elt' gs sc vp
      have hsw' := hsw
      simp only [swB, Bool.and_eq_true, Bool.not_eq_true'] at hsw'
      cases tg with
      | tp ts => simp [chkG] at cg
      | nm i =>
        simp only [chkG, Bool.and_eq_true, decide_eq_true_eq] at cg
        cases e <;> try (simp [chkE] at ce; done)
        rename_i elt tg it cond vs
        match gs, ce with
        | [⟨tg', it', ifs, k⟩], ce =>
          have rd' : Out X.K Xn Xr A H0 s σ H W (ev Φ (.lc elt tg it cond vs) s) (fun x H1 => D.nx (σ.set i (some x)) H1) := by
            rw [run] at h
            cases ea : ev Φ (.lc elt tg it cond vs) s with
            | no => rw [ea] at h; exact h.elim
            | ex cc args s1 => rw [ea] at h; exact fun cls dx H' g r => h cls dx σ H' g r
            | ok w s1 =>
              rw [ea] at h
              dsimp only at h
              intro x H1 g r
              split at h
              · rename_i s2 e2
                exact h _ H1 (bind_nm R g r e2)
              · exact h.elim
          obtain ⟨rfl, hc, hs, okb, wi, g, tt, te, p1, p2, p3, p4, q⟩ := lc_read (snd elt).1 (sndI it) (sndO cond).2 O t ce tk R rd'
          refine of_ps (ps_setLc (i := i) hc O.nd (by rw [O.N]; exact cg.1) (by rw [O.nm]; exact eq_of_beq hsw'.1.1) (sw_true' O (pos := pos) hsw) p1 okb p2 p3 p4 hs) q
        | [], ce => simp [chkE] at ce
        | _ :: _ :: _, ce => simp [chkE] at ce
  | [], ck => simp [chkS] at ck
  | _ :: _ :: _, ck => simp [chkS] at ck
/-- one expression, then what a statement makes of it -/
theorem st_one {a : E} {pa : Expr} {X : Cx} {c : Cxt} (O : Okx X c) (t : Okt X T c Φ Xn Xr) (ca : chkE T c a pa = true) {W : WX} (tk : Takes X W) {A : Addr → Prop} {H0 : Hp} {s : Sl} {σ : L2.St} {H : Hp}
    (R : Rel X.K Xn A H0 s σ H) {f : Vl → Sl → Mi.R Fl} {D : Ends} {P : V → Hp → Prop}
    (h : SOut X.K Xn Xr A H0 s σ H W (match ev Φ a s with
      | .ok x s1 => f x s1
      | .ex c args s1 => .ex c args s1
      | .no => .no) D)
    (k : ∀ v s1 x H1, Go X.K Xn A H0 s σ H s1 σ H1 → VR X.K Xn A H0 s1 σ H H1 v x → SOut X.K Xn Xr A H0 s σ H W (f v s1) D → P x H1) :
    wpE X pa σ H P := by
  refine (snd a).1 X c pa O t ca W tk A H0 s σ H R _ ?_
  cases ea : ev Φ a s with
  | no => rw [ea] at h; exact h.elim
  | ex c args s1 => rw [ea] at h; exact fun cls dx H' g r => h cls dx σ H' g r
  | ok v s1 =>
    rw [ea] at h
    intro x H1 g1 r1
    exact k v s1 x H1 g1 r1 h
/-- a test, then what a statement makes of it -/
theorem st_test {a : E} {pa : Expr} {X : Cx} {c : Cxt} (O : Okx X c) (t : Okt X T c Φ Xn Xr) (ca : chkE T c a pa = true) {W : WX} (tk : Takes X W) {A : Addr → Prop} {H0 : Hp} {s : Sl} {σ : L2.St} {H : Hp}
    (R : Rel X.K Xn A H0 s σ H) {f g : Sl → Mi.R Fl} {D : Ends} {P : Bool → Hp → Prop}
    (h : SOut X.K Xn Xr A H0 s σ H W (match ev Φ a s with
      | .ok (.dt (.bool true)) s1 => f s1
      | .ok (.dt (.bool false)) s1 => g s1
      | .ok _ _ => .no
      | .ex c args s1 => .ex c args s1
      | .no => .no) D)
    (k : ∀ b s1 H1, Go X.K Xn A H0 s σ H s1 σ H1 → SOut X.K Xn Xr A H0 s σ H W (if b then f s1 else g s1) D → P b H1) :
    wpT X pa σ H P := by
  refine (snd a).2 X c pa O t ca W tk A H0 s σ H R _ ?_
  cases ea : ev Φ a s with
  | no => rw [ea] at h; exact h.elim
  | ex c args s1 => rw [ea] at h; exact fun cls dx H' g r => h cls dx σ H' g r
  | ok v s1 =>
    rw [ea] at h
    cases v with
    | nw d => exact h.elim
    | br i => exact h.elim
    | dt d =>
      cases d <;> try exact h.elim
      rename_i b
      intro H1 g1
      cases b with
      | true => exact k true s1 H1 g1 h
      | false => exact k false s1 H1 g1 h
theorem snd_expr {e : E} : SndS T Φ Xn Xr n (.expr e) := by
  intro X c pst O t ok ck W tk A H0 s σ H R D h
  cases pst <;> try (simp only [chkS, Bool.false_eq_true] at ck; done)
  rename_i v pos
  simp only [chkS, Bool.and_eq_true] at ck
  have hs : swapsWith v none pos.line X.env = pure false := by
    have h1 := ck.1
    cases v <;> first | rfl | cases h1
  refine of_ps (ps_expr pe_w hs) ?_
  exact st_one O t ck.2 tk R (f := fun _ s1 => .ok .nx s1) (D := D) (by rw [run] at h; exact h) fun v s1 x H1 g r h => h σ H1 g
theorem retV_ok {X : Cx} {A : Addr → Prop} {H0 : Hp} {s s1 : Sl} {σ : L2.St} {H H1 : Hp} {W : WX} {D : Ends} {v : Vl} {x : V} (R : Rel X.K Xn A H0 s σ H) (g : Go X.K Xn A H0 s σ H s1 σ H1) (r : VR X.K Xn A H0 s1 σ H H1 v x) (h : SOut X.K Xn Xr A H0 s σ H W (retV s1 v) D) : D.rt x H1 := by
  cases v with
  | dt d => exact h x σ H1 g r
  | nw d =>
    refine h x σ H1 g ?_
    obtain ⟨p, rfl, hp, Rp', ⟨ds, xs, r1, r2, r3⟩, ne, nA⟩ := r
    refine ⟨p, rfl, R.h0 hp, nA, ⟨ds, xs, r1, r2, r3.weak fun b q => .inl q⟩, fun i d' hi => ?_⟩
    obtain ⟨a, e1, ⟨ds', xs', r1', r2', r3'⟩, _⟩ := Rp'.own i _ _ hi
    exact ⟨a, e1, ⟨ds', xs', r1', r2', r3'.weak fun b q => .inl q⟩⟩
  | br i =>
    unfold retV at h
    split at h
    · rename_i hd; cases hd
    · rename_i hd; cases hd
    · rename_i i' hd
      cases hd
      split at h
      · rename_i d hs
        refine h x σ H1 g ?_
        obtain ⟨a, e1, ⟨ds, xs, r1, r2, r3⟩, _, e3⟩ := g.rel.own i _ _ hs
        have r : σ[i]? = some (some x) := r
        rw [r] at e1
        cases e1
        have zz : ∀ b, Apt A a b → Zs A s1 σ b := fun b q => by
          rcases q with q | q
          · exact .inl q
          · exact .inr (q ▸ ⟨i, _, _, hs, r⟩)
        refine ⟨a, rfl, (e3 rfl).2, (e3 rfl).1, ⟨ds, xs, r1, r2, r3.weak zz⟩, fun j d' hj => ?_⟩
        obtain ⟨a', e1, ⟨ds', xs', r1', r2', r3'⟩, _⟩ := g.rel.own j _ _ hj
        exact ⟨a', e1, ⟨ds', xs', r1', r2', r3'.weak zz⟩⟩
      · rename_i d hs
        refine h x σ H1 g ?_
        obtain ⟨w, e1, e2⟩ := g.rel.val i d hs
        have r : σ[i]? = some (some x) := r
        rw [r] at e1
        cases e1
        exact e2
      · exact h.elim
theorem snd_ret {e : E} : SndS T Φ Xn Xr n (.ret e) := by
  intro X c pst O t ok ck W tk A H0 s σ H R D h
  cases pst <;> try (simp only [chkS, Bool.false_eq_true] at ck; done)
  rename_i v pos
  cases v with
  | none => simp [chkS] at ck
  | some v =>
    simp only [chkS] at ck
    refine of_ps (ps_ret pe_w) ?_
    exact st_one O t ck tk R (f := fun v s1 => retV s1 v) (D := D) (by rw [run] at h; exact h) fun v s1 x H1 g r h => retV_ok R g r h
theorem snd_retN : SndS T Φ Xn Xr n .retN := by
  intro X c pst O t ok ck W tk A H0 s σ H R D h
  cases pst <;> try (simp only [chkS, Bool.false_eq_true] at ck; done)
  rename_i v pos
  cases v with
  | some _ => simp [chkS] at ck
  | none =>
    rw [run] at h
    exact of_ps ps_retN (h _ σ H (Go.refl R) .non)
theorem snd_stuck : SndS T Φ Xn Xr n .stuck := by
  intro X c pst O t ok ck W tk A H0 s σ H R D h
  rw [run] at h
  exact h.elim
theorem snd_pass : SndS T Φ Xn Xr n .pass := by
  intro X c pst O t ok ck W tk A H0 s σ H R D h
  cases pst <;> try (simp only [chkS, Bool.false_eq_true] at ck; done)
  rw [run] at h
  exact of_ps ps_pass (h σ H (Go.refl R))
theorem snd_brk : SndS T Φ Xn Xr n .brk := by
  intro X c pst O t ok ck W tk A H0 s σ H R D h
  cases pst <;> try (simp only [chkS, Bool.false_eq_true] at ck; done)
  rw [run] at h
  exact of_ps ps_break (h σ H (Go.refl R))
theorem snd_cnt : SndS T Φ Xn Xr n .cnt := by
  intro X c pst O t ok ck W tk A H0 s σ H R D h
  cases pst <;> try (simp only [chkS, Bool.false_eq_true] at ck; done)
  rw [run] at h
  exact of_ps ps_continue (h σ H (Go.refl R))
theorem snd_par {i j : Nat} {a b : E} : SndS T Φ Xn Xr n (.par i j a b) := by
  intro X c pst O t ok ck W tk A H0 s σ H R D h
  cases pst <;> try (simp only [chkS, Bool.false_eq_true] at ck; done)
  rename_i tgs v pos
  simp only [chkS] at ck
  split at ck
  · rename_i x px y py a' b' hnm
    obtain ⟨kt, pt, kv, pv, rfl, rfl⟩ := of_parNm hnm
    · simp only [Bool.and_eq_true, Bool.not_eq_true', decide_eq_true_eq] at ck
      obtain ⟨⟨⟨⟨⟨⟨⟨⟨⟨⟨hh, hx⟩, hy⟩, hij⟩, hxy⟩, hl⟩, lx⟩, ly⟩, ca⟩, cb⟩, sw⟩ := ck
      have lx' : X.env.scope.names.lookup x = some .local := by
        rw [O.nm]; split at lx <;> first | assumption | cases lx
      have ly' : X.env.scope.names.lookup y = some .local := by
        rw [O.nm]; split at ly <;> first | assumption | cases ly
      have st1 := nostar (env := X.env) (es := [b']) (chk_noStar ca)
      have st2 := nostar (env := X.env) (es := []) (chk_noStar cb)
      have hw : swappedStores [.Tuple [.Name x px, .Name y py] kt pt] (.Tuple [a', b'] kv pv) X.env = pure (some [x, y]) := by
        have hb : X.env.blockKind = .function := by unfold PySem.Env.blockKind; rw [O.kd]; rfl
        exact swapped2 hb (by unfold PySem.Env.kindOf; exact lx') (by unfold PySem.Env.kindOf; exact ly') (eq_of_beq hl).symm hxy (chk_noStar ca) (chk_noStar cb) sw
      refine of_ps (ps_par (O.calm hh) O.nd (by rw [O.N]; exact hx) (by rw [O.N]; exact hy) hij lx' ly' (pa_cons pe_w (pa_cons pe_w pa_nil st2) st1) hw rfl) ?_
      rw [run] at h
      refine (snd a).1 X c a' O t ca W tk A H0 s σ H R _ ?_
      cases ea : ev Φ a s with
      | no => rw [ea] at h; exact h.elim
      | ex cc args s1 => rw [ea] at h; exact fun cls dx H' g r => h cls dx σ H' g r
      | ok v s1 =>
        rw [ea] at h
        dsimp only at h
        intro x1 H1 g1 r1
        refine (snd b).1 X c b' O t cb W tk A H0 s1 σ H1 g1.rel _ ?_
        cases eb : ev Φ b s1 with
        | no => rw [eb] at h; exact h.elim
        | ex cc args s2 => rw [eb] at h; exact fun cls dx H' g r => h cls dx σ H' (g1.trans g) r
        | ok w s2 =>
          rw [eb] at h
          dsimp only at h
          intro y1 H2 g2 r2
          have vls : VLs X.K A s2 σ H2 [v, w] [x1, y1] := .cons (r1.late.go g2) (.cons r2.late .nil)
          split at h
          · rename_i dx dy s3 e3
            obtain ⟨g3, r3⟩ := escs_ok g2.rel vls e3
            split at h
            · cases r3 with
              | cons q1 q2 =>
                cases q2 with
                | cons q2 q3 =>
                  refine ⟨x1, y1, rfl, ?_⟩
                  have ga := g3.rel.goVal (i := i) q1
                  have gb := ga.rel.goVal (i := j) (ga.rp q2)
                  exact h _ H2 ((((g1.trans g2).trans g3).trans ga).trans gb)
            · exact h.elim
          · exact h.elim
  · cases ck
theorem snd_setIx {i : Nat} {ix e : E} : SndS T Φ Xn Xr n (.setIx i ix e) := by
  intro X c pst O t ok ck W tk A H0 s σ H R D h
  cases pst <;> try (simp only [chkS, Bool.false_eq_true] at ck; done)
  rename_i tgs v pos
  simp only [chkS] at ck
  split at ck
  · rename_i x px ix' p' hnm
    obtain rfl := of_setNm hnm
    simp only [Bool.and_eq_true, decide_eq_true_eq] at ck
    obtain ⟨⟨⟨⟨hN, hv⟩, ci⟩, nsl⟩, ce⟩ := ck
    obtain ⟨v1, v2, v3⟩ := O.vis hv
    have pv : PE X (.Name x px) (tVar i) := pe_var (i := i) (by rw [O.N]; exact hN) v1 v2 v3
    have pg : PG X (.Subscript (.Name x px) ix' p') (gSub (tVar i) (wpE X ix') rSetL) := by
      refine pg_sub pv pe_w set_list ?_
      intro v; cases ix' <;> first | rfl | cases nsl
    have hs : swapsWithSole [.Subscript (.Name x px) ix' p'] v pos.line X.env = pure false := by
      show swapsWith v (some (.Subscript (.Name x px) ix' p')) pos.line X.env = pure false
      cases v <;> rfl
    refine of_ps (ps_asg pe_w pg hs (by cases v <;> rfl) rfl) ?_
    rw [run] at h
    refine (snd e).1 X c v O t ce W tk A H0 s σ H R _ ?_
    cases ea : ev Φ e s with
    | no => rw [ea] at h; exact h.elim
    | ex cc args s1 => rw [ea] at h; exact fun cls dx H' g r => h cls dx σ H' g r
    | ok w s1 =>
      rw [ea] at h
      dsimp only at h
      intro x1 H1 g1 r1
      split at h
      · rename_i d s2 e2
        obtain ⟨g2, r2⟩ := esc_ok g1.rel r1.late e2
        have g12 := g1.trans g2
        split at h
        · rename_i p0 d0 hs0
          obtain ⟨a0, f1, _⟩ := g2.rel.own i p0 d0 hs0
          refine ⟨_, f1, ?_⟩
          refine (snd ix).1 X c ix' O t ci W tk A H0 s2 σ H1 g2.rel _ ?_
          cases ei : ev Φ ix s2 with
          | no => rw [ei] at h; exact h.elim
          | ex cc args s3 => rw [ei] at h; exact fun cls dx H' g r => h cls dx σ H' (g12.trans g) r
          | ok u s3 =>
            rw [ei] at h
            intro iv H3 g3 r3
            cases u with
            | nw _ => exact h.elim
            | br _ => exact h.elim
            | dt du =>
              cases du <;> try exact h.elim
              rename_i k
              dsimp only at h
              have r3 : Rp _ _ _ _ _ := r3
              have e3 := r3.int_inv
              subst e3
              split at h
              · rename_i p1 xs hs1
                split at h
                · rename_i j hj
                  obtain ⟨a1, f2, ⟨ds1, xs1, q1, q2, q3⟩, _⟩ := g3.rel.own i p1 _ hs1
                  rw [f1] at f2
                  cases f2
                  cases q1
                  have rs := q3.set (g3.rp r2) j
                  exact ⟨a0, xs1, k, j, rfl, rfl, q2, by rw [q3.length]; exact hj, h σ _ ((g12.trans g3).trans (g3.rel.write t.xn hs1 f1 rs))⟩
                · exact h.elim
              · exact h.elim
        · exact h.elim
      · exact h.elim
  · cases ck
theorem snd_aug {i : Nat} {op : BOp} {e : E} : SndS T Φ Xn Xr n (.aug i op e) := by
  intro X c pst O t ok ck W tk A H0 s σ H R D h
  cases pst <;> try (simp only [chkS, Bool.false_eq_true] at ck; done)
  rename_i tg' o v pos
  cases tg' <;> try (simp only [chkS, Bool.false_eq_true] at ck; done)
  rename_i x px
  simp only [chkS, Bool.and_eq_true, decide_eq_true_eq] at ck
  obtain ⟨⟨⟨⟨rfl, hop⟩, hN⟩, hl⟩, ce⟩ := ck
  obtain ⟨h1, h2⟩ := O.loc hl
  rw [run] at h
  split at h
  · rename_i a hs0
    obtain ⟨w, e1, e2⟩ := R.val i _ hs0
    have e3 := e2.int_inv
    subst e3
    have go : ∀ (Q : VK), (∀ b s1 H1, ev Φ e s = .ok (.dt (.int b)) s1 → Go X.K Xn A H0 s σ H s1 σ H1 → Q (.int b) H1) → wpE X v σ H Q := fun Q k => by
      refine (snd e).1 X c v O t ce W tk A H0 s σ H R _ ?_
      cases ea : ev Φ e s with
      | no => rw [ea] at h; exact h.elim
      | ex cc args s1 => rw [ea] at h; exact fun cls dx H' g r => h cls dx σ H' g r
      | ok u s1 =>
        rw [ea] at h
        intro x1 H1 g1 r1
        cases u with
        | nw _ => exact h.elim
        | br _ => exact h.elim
        | dt du =>
          cases du <;> try exact h.elim
          have r1 : Rp _ _ _ _ _ := r1
          have e4 := r1.int_inv
          subst e4
          exact k _ _ _ ea g1
    cases op <;> try cases hop
    · refine of_ps (ps_aug (i := i) O.nd (by rw [O.N]; exact hN) h1 pe_w ip_add h2) ⟨_, e1, go _ fun b s1 H1 ea g => ⟨a, b, rfl, rfl, ?_⟩⟩
      rw [ea] at h
      dsimp only at h
      split at h
      · exact h _ H1 (g.trans (g.rel.goVal (.int _)))
      · exact h.elim
    · refine of_ps (ps_aug (i := i) O.nd (by rw [O.N]; exact hN) h1 pe_w ip_sub h2) ⟨_, e1, go _ fun b s1 H1 ea g => ⟨a, b, rfl, rfl, ?_⟩⟩
      rw [ea] at h
      dsimp only at h
      split at h
      · exact h _ H1 (g.trans (g.rel.goVal (.int _)))
      · exact h.elim
  · exact h.elim
theorem snd_ifs {e : E} {a b : Ss} (ha : SndSs T Φ Xn Xr n a) (hb : SndSs T Φ Xn Xr n b) : SndS T Φ Xn Xr n (.ifs e a b) := by
  intro X c pst O t ok ck W tk A H0 s σ H R D h
  cases pst <;> try (simp only [chkS, Bool.false_eq_true] at ck; done)
  rename_i pt pa pb pos
  simp only [chkS, Bool.and_eq_true] at ck
  refine of_ps (ps_if pt_w pss_w pss_w) ?_
  refine st_test O t ck.1.1 tk R (f := fun s1 => runs Φ n a s1) (g := fun s1 => runs Φ n b s1) (D := D) (by rw [run] at h; exact h) fun b' s1 H1 g h => ?_
  cases b' with
  | true => exact ha X c pa O t ok ck.1.2 W tk A H0 s1 σ H1 g.rel D (SOut.cont g h)
  | false => exact hb X c pb O t ok ck.2 W tk A H0 s1 σ H1 g.rel D (SOut.cont g h)
theorem snd_whl {e : E} {b : Ss} (hb : SndSs T Φ Xn Xr n b) : SndS T Φ Xn Xr n (.whl e b) := by
  intro X c pst O t ok ck W tk A H0 s σ H R D h
  cases pst <;> try (simp only [chkS, Bool.false_eq_true] at ck; done)
  rename_i pt pb pe pos
  cases pe with
  | cons _ _ => simp [chkS] at ck
  | nil =>
    simp only [chkS, Bool.and_eq_true, Bool.not_eq_true'] at ck
    refine of_ps (ps_while (ok.ps (O.calm ck.1.1)) pt_w pss_w) ?_
    rw [run] at h
    refine ⟨fun m σ' H' => ∃ s', Go X.K Xn A H0 s σ H s' σ' H' ∧ SOut X.K Xn Xr A H0 s' σ' H' W (whlGo (fun s => ev Φ e s) (fun s => runs Φ n b s) m s') D, ⟨n, s, Go.refl R, h⟩, ?_⟩
    rintro m σ1 H1 ⟨s1, g1, h1⟩
    cases m with
    | zero => exact h1.elim
    | succ m =>
      rw [whlGo] at h1
      refine st_test O t ck.1.2 tk g1.rel (f := fun s1 => match runs Φ n b s1 with
          | .ok .nx s2 => whlGo (fun s => ev Φ e s) (fun s => runs Φ n b s) m s2
          | .ok .ct s2 => whlGo (fun s => ev Φ e s) (fun s => runs Φ n b s) m s2
          | .ok .bk s2 => .ok .nx s2
          | .ok (.rt w d) s2 => .ok (.rt w d) s2
          | .ex c args s2 => .ex c args s2
          | .no => .no) (g := fun s1 => .ok .nx s1) (D := D) h1 fun b' s2 H2 g h2 => ?_
      cases b' with
      | false => exact h2 σ1 H2 g
      | true =>
        rw [if_pos rfl] at h2 ⊢
        refine ⟨fun σ' H' => ∃ s', Go X.K Xn A H0 s σ H s' σ' H' ∧ SOut X.K Xn Xr A H0 s' σ' H' W (whlGo (fun s => ev Φ e s) (fun s => runs Φ n b s) m s') D, fun σ' H' q => ⟨m, Nat.lt_succ_self m, q⟩, ?_⟩
        refine hb X c pb O t ok ck.2 W tk A H0 s2 σ1 H2 g.rel _ ?_
        cases eb : runs Φ n b s2 with
        | no => rw [eb] at h2; exact h2.elim
        | ex cc args s3 => rw [eb] at h2; exact fun cls dx σ' H' g' r => h2 cls dx σ' H' (g.trans g') r
        | ok f s3 =>
          rw [eb] at h2
          cases f with
          | nx => exact fun σ' H' g' => ⟨s3, (g1.trans g).trans g', SOut.cont (g.trans g') h2⟩
          | ct => exact fun σ' H' g' => ⟨s3, (g1.trans g).trans g', SOut.cont (g.trans g') h2⟩
          | bk => exact fun σ' H' g' => h2 σ' H' (g.trans g')
          | rt w d => exact fun x σ' H' g' r => h2 x σ' H' (g.trans g') r
theorem chkI_fold {c : Cxt} {tg pi : Expr} {it : It} (h : chkI T c tg it pi = true) (env : PySem.Env) : ∀ x, foldedSetIterable pi env x = pure x := by
  cases it with
  | e e => exact chk_noSet (by simpa only [chkI] using h) env
  | _ => cases pi <;> first | (intro x; rfl) | (simp [chkI] at h)
theorem snd_for {tg : Tg} {it : It} {b : Ss} (hb : SndSs T Φ Xn Xr n b) : SndS T Φ Xn Xr n (.for_ tg it b) := by
  intro X c pst O t ok ck W tk A H0 s σ H R D h
  cases pst <;> try (simp only [chkS, Bool.false_eq_true] at ck; done)
  rename_i pt pi pb pe pos
  cases pe with
  | cons _ _ => simp [chkS] at ck
  | nil =>
    simp only [chkS, Bool.and_eq_true, Bool.not_eq_true'] at ck
    obtain ⟨⟨⟨hh, cg⟩, ci⟩, cb⟩ := ck
    rw [run] at h
    obtain ⟨wi, pi', q⟩ := sndI it X c pt pi O t ci W tk A H0 s σ H R (fun J H' => ∃ W : Nat → Nat → L2.St → Hp → Prop, (∃ m, W 0 m σ H') ∧ ∀ i m σ H, W i m σ H →
      (J.stop i H ∧ D.nx σ H) ∨ (J.go i H ∧ ∃ N : L2.St → Hp → Prop, (∀ σ' H', N σ' H' → ∃ m', m' < m ∧ W (i + 1) m' σ' H') ∧ ∀ x H', J.yld i H x H' → wpG X pt x σ H' fun σ2 H2 => wpSs X pb { D with nx := N, ct := N, bk := D.nx } σ2 H2)) (by
      cases ei : evIt Φ it s with
      | no => rw [ei] at h; exact h.elim
      | ex cc args s1 => rw [ei] at h; exact fun cls dx H' g r => h cls dx σ H' g r
      | ok ds s1 =>
        rw [ei] at h
        dsimp only at h
        intro J H1 g1 iok
        obtain ⟨G, Y, w, hG, hY⟩ := iok
        refine for_it w (fun i σ' H' => ∃ s', Go X.K Xn A H0 s1 σ H1 s' σ' H' ∧ SOut X.K Xn Xr A H0 s' σ' H' W (forGo tg (fun s => runs Φ n b s) (ds.drop i) s') D) ⟨s1, Go.refl g1.rel, SOut.cont g1 h⟩ ?_ ?_ ?_
        · rintro i σ' H' _ ⟨s', g, _⟩
          exact hG H' g.fr
        · rintro i x σ2 H2 H3 hi ⟨s2, g, h2⟩ y
          obtain ⟨d, hd⟩ : ∃ d, ds[i]? = some d := ⟨ds[i], by simp [hi]⟩
          have e : ds.drop i = d :: ds.drop (i + 1) := by
            rw [List.drop_eq_getElem_cons hi]
            rw [List.getElem?_eq_getElem hi] at hd
            cases hd
            rfl
          have hz : ∀ b, Zs A s2 σ2 b → H2 b ≠ none := fun b q => by
            rcases q with q | q
            · exact g.rel.dom b q
            · obtain ⟨xs, e⟩ := g.rel.exc_lst q
              rw [e]; simp
          obtain ⟨ext, rx⟩ := hY i H2 x H3 (Zs A s2 σ2) d g.fr g.zs hz y hd
          have gx := g.rel.goExt t.xn ext
          rw [e, forGo] at h2
          split at h2
          · exact h2.elim
          · rename_i s3 e3
            refine snd_tg tg O cg gx.rel rx e3 _ fun σ3 g3 _ => ?_
            have g23 := gx.trans g3
            refine hb X c pb O t ok cb W tk A H0 s3 σ3 H3 g3.rel _ ?_
            cases eb : runs Φ n b s3 with
            | no => rw [eb] at h2; exact h2.elim
            | ex cc args s4 => rw [eb] at h2; exact fun cls dx σ' H' g' r => h2 cls dx σ' H' (g23.trans g') r
            | ok f s4 =>
              rw [eb] at h2
              cases f with
              | nx => exact fun σ' H' g' => ⟨s4, (g.trans g23).trans g', SOut.cont (g23.trans g') h2⟩
              | ct => exact fun σ' H' g' => ⟨s4, (g.trans g23).trans g', SOut.cont (g23.trans g') h2⟩
              | bk => exact fun σ' H' g' => h2 σ' H' (g23.trans g')
              | rt w d => exact fun x σ' H' g' r => h2 x σ' H' (g23.trans g') r
        · rintro σ' H' ⟨s', g, h2⟩
          rw [List.drop_length, forGo] at h2
          exact h2 σ' H' (Go.refl g.rel))
    exact of_ps (ps_for (ok.ps (O.calm hh)) (O.calm hh) pi' pg_w pss_w (chkI_fold ci X.env)) q
theorem sndss_nil : SndSs T Φ Xn Xr n .nil := by
  intro X c psts O t ok ck W tk A H0 s σ H R D h
  cases psts with
  | cons _ _ => simp [chkSs] at ck
  | nil => exact of_pss pss_nil (h σ H (Go.refl R))
theorem sndss_cons {st : S} {ss : Ss} (h1 : SndS T Φ Xn Xr n st) (h2 : SndSs T Φ Xn Xr n ss) : SndSs T Φ Xn Xr n (.cons st ss) := by
  intro X c psts O t ok ck W tk A H0 s σ H R D h
  cases psts with
  | nil => simp [chkSs] at ck
  | cons pst psts =>
    simp only [chkSs, Bool.and_eq_true] at ck
    refine of_pss (pss_cons ps_w pss_w) ?_
    refine h1 X c pst O t ok ck.1 W tk A H0 s σ H R _ ?_
    rw [runs] at h
    cases e : run Φ n st s with
    | no => rw [e] at h; exact h.elim
    | ex cc args s1 => rw [e] at h; exact h
    | ok f s1 =>
      rw [e] at h
      cases f with
      | nx => exact fun σ' H' g => h2 X c psts O t ok ck.2 W tk A H0 s1 σ' H' g.rel D (SOut.cont g h)
      | ct => exact h
      | bk => exact h
      | rt w d => exact h
end
end Mi

/-! Mi13b: raise, try. -/
namespace Mi
open PySem PySem.Spec PyProof.Rows L2
section
variable {K : PySem.W.Frag} {Xn Xm : XnT} {A : Addr → Prop} {H0 : Hp} {s s1 s2 : Sl} {σ σ1 σ2 : L2.St} {H H1 H2 : Hp}
theorem noX_at (h : noX s = true) {i c : Nat} {args : List D} (e : s[i]? = some (Slot.exn c args)) : False := by
  have := List.all_eq_true.mp h _ (List.mem_of_getElem? e)
  cases this
theorem Rel.swap (R : Rel K Xn A H0 s σ H) (h : ∀ (i c : Nat) (args : List D), s[i]? ≠ some (Slot.exn c args)) : Rel K Xm A H0 s σ H :=
  ⟨R.len, R.dom, R.dom0, R.val, R.own, R.inj, fun i c args e => absurd e (h i c args)⟩
theorem Rel.noE (R : Rel K Xn A H0 s σ H) (h0 : ∀ cc args v H, ¬ Xn cc args v H) (i c : Nat) (args : List D) : s[i]? ≠ some (Slot.exn c args) := fun e => by
  obtain ⟨v, _, q⟩ := R.exn i c args e
  exact h0 _ _ _ _ q
theorem exc_exn {j c : Nat} {args : List D} {w : Option V} {a : Addr} (h : exc (s.set j (.exn c args)) (σ.set j w) a) : exc s σ a := exc_set (fun p d => by intro z; cases z) h
theorem Rel.setExn (R : Rel K Xn A H0 s σ H) (h0 : ∀ cc args v H, ¬ Xn cc args v H) {j cc : Nat} {v : V} (hs : canSet s j = true) (hn : Xm cc [] v H) : Rel K Xm A H0 (s.set j (.exn cc [])) (σ.set j (some v)) H := by
  have R1 := (R.goNo (i := j) (w := some v)).rel
  have zz : ∀ b, Zs A (s.set j (.exn cc [])) (σ.set j (some v)) b → Zs A (s.set j .no) (σ.set j (some v)) b := fun b q => by
    rcases q with q | ⟨i, p, d, e1, e2⟩
    · exact .inl q
    · by_cases hi : i = j
      · subst hi
        obtain ⟨z, _⟩ := get_set_eq e1
        cases z
      · rw [get_set_ne hi] at e1
        exact .inr ⟨i, p, d, by rw [get_set_ne hi]; exact e1, e2⟩
  have sw : ∀ {i : Nat} {x : Slot}, (∀ c a, x ≠ .exn c a) → (s.set j (.exn cc []))[i]? = some x → (s.set j .no)[i]? = some x := fun {i x} hx e => by
    by_cases hi : i = j
    · subst hi
      obtain ⟨z, _⟩ := get_set_eq e
      exact absurd z.symm (hx _ _)
    · rw [get_set_ne hi] at e ⊢
      exact e
  refine ⟨by simpa using R.len, R1.dom, R1.dom0, fun i d e => ?_, fun i p d e => ?_, fun i k p q d e a h1 h2 h3 h4 => ?_, fun i c args e => ?_⟩
  · obtain ⟨w, e1, e2⟩ := R1.val i d (sw (by intro c a z; cases z) e)
    exact ⟨w, e1, e2.weak zz⟩
  · obtain ⟨a, e1, ⟨ds, xs, r1, r2, r3⟩, e3⟩ := R1.own i p d (sw (by intro c a z; cases z) e)
    exact ⟨a, e1, ⟨ds, xs, r1, r2, r3.weak zz⟩, e3⟩
  · exact R1.inj i k p q d e a (sw (by intro c a z; cases z) h1) (sw (by intro c a z; cases z) h2) h3 h4
  · by_cases hi : i = j
    · subst hi
      obtain ⟨z, hl⟩ := get_set_eq e
      cases z
      exact ⟨v, List.getElem?_set_self (by rw [← R.len]; exact hl), hn⟩
    · rw [get_set_ne hi] at e
      exact absurd e (R.noE h0 i c args)
theorem go_back (g : Go K Xn A H0 s σ H s1 σ1 H1) {j cc : Nat} {v : V} (g2 : Go K Xm A H0 (s1.set j (.exn cc [])) (σ1.set j (some v)) H1 s2 σ2 H2) (hx : noX (s2.set j .no) = true) : Go K Xn A H0 s σ H (s2.set j .no) (σ2.set j none) H2 := by
  refine g.trans ⟨((g2.rel.goNo (i := j) (w := none)).rel).swap fun i c args e => noX_at hx e, fun b o e n => g2.fr b o e fun q => n (exc_exn q), fun a q => ?_, g2.dom, fun i d e => ?_⟩
  · rcases g2.ex a (exc_set (fun p d => by intro z; cases z) q) with z | z
    · exact .inl (exc_exn z)
    · exact .inr z
  · obtain ⟨e1, d0, q⟩ := pin_set (σ := σ2) (w := none) (fun d => by intro z; cases z) i d e
    obtain ⟨e2, d1, q2⟩ := g2.pin i d0 q
    obtain ⟨e3, d2, q3⟩ := pin_set (σ := σ1) (w := some v) (fun d => by intro z; cases z) i d1 q2
    exact ⟨e1.trans (e2.trans e3), d2, q3⟩
theorem ret_back {j : Nat} {nw : Bool} {d : D} {x : V} (h : RetR K A H0 s2 σ2 H2 nw d x) : RetR K A H0 (s2.set j .no) (σ2.set j none) H2 nw d x := by
  cases nw with
  | false => exact Rp.weak (fun b q => by
      rcases q with q | q
      · exact .inl q
      · exact .inr (exc_set (fun p d => by intro z; cases z) q)) h
  | true =>
    obtain ⟨p, r1, r2, r3, r4, r5⟩ := h
    refine ⟨p, r1, r2, r3, r4, fun i d' e => ?_⟩
    obtain ⟨e1, _⟩ := pin_set (σ := σ2) (w := none) (fun d => by intro z; cases z) i d' e
    have hi : i ≠ j := fun z => by
      subst z
      obtain ⟨z, _⟩ := get_set_eq e
      cases z
    rw [get_set_ne hi] at e
    rw [e1]
    exact r5 i d' e
end
theorem takes_no {X : Cx} (h : X.xe = fun _ _ => False) : Takes X (fun _ _ _ _ => False) := fun u s' ⟨a, B, sI, pins, σ, H, cls, d, e, I, nb, up, sky, na, os, ag, w⟩ => w.elim
theorem NmC.names {X : Cx} {x : Str} {cv : Value} (h : NmC X.mg x cv) (g : Gl X x) (d : (x == ("__debug__" : Str)) = false) (n : x ≠ "__name__") : Names X x cv := by
  refine ⟨g, d, ?_⟩
  rcases h with ⟨h, _⟩ | ⟨h, rfl, rfl⟩
  · exact .inl h
  · exact .inr ⟨h, by decide +kernel, n⟩
section
variable {T : Tx} {Φ : Env} {Xn : XnT} {Xr : XrT} {n : Nat}
theorem snd_raisT {k : Nat} : SndS T Φ Xn Xr n (.raisT k) := by
  intro X c pst O t ok ck W tk A H0 s σ H R D h
  cases pst <;> try (simp only [chkS, Bool.false_eq_true] at ck; done)
  rename_i e cause pos
  cases e with
  | none => simp [chkS] at ck
  | some e =>
    cases cause with
    | some _ => simp [chkS] at ck
    | none =>
      simp only [chkS] at ck
      split at ck
      · rename_i x hx
        simp only [Bool.and_eq_true, Bool.not_eq_true', decide_eq_true_eq] at ck
        obtain ⟨⟨⟨hh, hk⟩, hne⟩, hg⟩ := ck
        obtain ⟨p, m, j, p2, pos', rfl⟩ := of_rsNm hx
        obtain ⟨g1, g2, g3⟩ := O.gl hg
        obtain ⟨Dc, hm, kp, ex, sb, ty, _⟩ := t.e.cl.own k x hk hne
        rw [run] at h
        exact of_ps (ps_raise (O.calm hh) tk (pmk_own PySem.F.excBase_ValueError ex hm kp (raises_own sb ty) g1 g2)) (h _ _ σ H (Go.refl R) (t.e.xi _ _ k x Dc hk hm))
      · cases ck
def AllH (P : Ss → Prop) : Hs → Prop
  | .nil => True
  | .cons _ _ b hs => P b ∧ AllH P hs
theorem snd_try {b : Ss} {hs : Hs} (hb : SndSs T Φ Xn Xr n b) (hsu : AllH (fun sb => ∀ Xm : XnT, SndSs T Φ Xm Xr n sb) hs) : SndS T Φ Xn Xr n (.try_ b hs) := by
  intro X c pst O t ok ck W tk A H0 s σ H R D h
  cases pst <;> try (simp only [chkS, Bool.false_eq_true] at ck; done)
  rename_i body hds oe fb pos
  cases oe with
  | cons _ _ => simp [chkS] at ck
  | nil =>
  cases fb with
  | cons _ _ => simp [chkS] at ck
  | nil =>
  simp only [chkS, Bool.and_eq_true, Bool.not_eq_true'] at ck
  obtain ⟨⟨hh, cb⟩, ch⟩ := ck
  have x0 := t.e.x0 hh
  rw [run] at h
  match hs, hds, ch, hsu, h with
  | .cons [k] i sb .nil, [hd], ch, hsu, h =>
    simp only [chkH] at ch
    split at ch
    · rename_i x nm b0 suite hx
      simp only [Bool.and_eq_true, decide_eq_true_eq] at ch
      obtain ⟨⟨⟨hk, hg⟩, hvr⟩, csu⟩ := ch
      obtain ⟨p, pos', rfl⟩ := of_hdNm hx
      obtain ⟨g1, g2, g3⟩ := O.gl hg
      obtain ⟨cv, hcv, hq⟩ := t.e.cl.val k x hk
      have hsb := hsu.1
      have Os : ∀ a pn, Okx (X.suite a pn) { c with hot := true } := fun a pn => ⟨O.N, O.nd, O.nm, O.kd, O.fn, fun z => absurd z.symm Bool.false_ne_true, by
        have := O.hu
        exact this⟩
      have Ot : ∀ (Xm : XnT) a pn, XnOk Xm → (∀ cc args v H, Xm cc args v H → ∃ (X' : Cx) (a' : Addr) (oe : Obj) (pn' : List (Addr × Obj)) (x : Str) (D : Addr), X.suite a pn = X'.suite a' ((a', oe) :: pn') ∧ v = .ref a' ∧ Zc (.ref D) none oe ∧ (∃ vs, oe.data = .fields vs) ∧ T.cls[cc]? = some x ∧ X.mg x = some (.ref D)) → Okt (X.suite a pn) T { c with hot := true } Φ Xm Xr :=
        fun Xm a pn h1 h2 => ⟨h1, t.blt, t.glb, fun z => absurd z.symm Bool.false_ne_true, t.xr, ⟨t.e.cl, t.e.xi, t.e.xo, fun z => absurd z.symm Bool.false_ne_true, fun _ => h2⟩⟩
      have Ok' : ∀ a pn, Oks (X.suite a pn) := fun a pn => ⟨fun z => absurd z Bool.false_ne_true, ok.hs, ok.hf⟩
      have Otr : ∀ pn xe, Okx (X.tr pn xe) c := fun pn xe => ⟨O.N, O.nd, O.nm, O.kd, O.fn, O.calm, O.hu⟩
      have Ttr : ∀ pn xe, Okt (X.tr pn xe) T c Φ Xn Xr := fun pn xe => ⟨t.xn, t.blt, t.glb, t.fn, t.xr, ⟨t.e.cl, t.e.xi, t.e.xo, t.e.x0, fun z => absurd (z.symm.trans hh) (by decide)⟩⟩
      cases i with
      | some j =>
        cases nm with
        | none => cases hvr
        | some m =>
          simp only [hdVar, Bool.and_eq_true, decide_eq_true_eq] at hvr
          have hlk : X.env.kindOf m = some .local := by
            unfold PySem.Env.kindOf
            rw [O.nm]
            have := hvr.2
            split at this <;> first | assumption | cases this
          refine of_ps (ps_try_as (i := j) (c := cv) (Wout := W) (tb := fun W' D σ H => ∀ pn xe, Takes (X.tr pn xe) W' → PassesOwn (model X.prog X.w) X.A X.env xe → wpSs (X.tr pn xe) body D σ H)
            (ts := fun a cls d D σ H => ∀ oe pn, Zc cls d oe → (∃ vs, oe.data = .fields vs) → wpSs (X.suite a ((a, oe) :: pn)) (b0 :: suite) D σ H) ok.hs ok.hf O.nd (by rw [O.N]; exact hvr.1) hlk (hcv.names g1 g2 g3) tk
            (fun W' pn xe tk' ps' => ⟨fun pins s σ H D I h => h pn xe tk' ps' pins s I⟩) (fun a oe cls d pn hz hf => ⟨fun pins s σ H D I h => h oe pn hz hf pins s I⟩)) ?_
          intro pn xe tk' ps'
          refine hb (X.tr pn xe) c body (Otr pn xe) (Ttr pn xe) ⟨fun _ => ps', ok.hs, ok.hf⟩ cb _ tk' A H0 s σ H R D ?_
          cases eb : runs Φ n b s with
          | no => rw [eb] at h; exact h.elim
          | ok f s1 => rw [eb] at h; cases f <;> exact h
          | ex cc args s1 =>
            rw [eb] at h
            intro cls dx σ1 H1 g xr
            obtain ⟨rfl, rfl, y, Dc, hy, hmy, rfl⟩ := t.e.xo _ _ _ _ _ _ xr
            obtain ⟨exm, _, _⟩ := hq cc y Dc hy hmy
            have hb1 : ([k].any fun k => Φ.under k cc) = Φ.under k cc := by simp
            simp only [runH, hb1] at h
            refine ⟨Φ.under k cc, exm, fun hu a hna oe pn2 hz hf => ?_, fun hu => ?_⟩
            · rw [hu, if_pos rfl] at h
              split at h
              · rename_i hcs
                refine hsb (fun cc' args' v _ => cc' = cc ∧ v = .ref a) (X.suite a ((a, oe) :: pn2)) { c with hot := true } (b0 :: suite) (Os _ _) (Ot _ _ _ (fun _ _ _ _ _ q _ => q) (fun cc' args' v H q => ⟨X, a, oe, pn2, y, Dc, rfl, q.2, hz, hf, by rw [q.1]; exact hy, hmy⟩)) (Ok' _ _) csu _ (takes_no rfl) A H0 (s1.set j (.exn cc [])) (σ1.set j (some (.ref a))) H1 (g.rel.setExn x0 hcs ⟨rfl, rfl⟩) _ ?_
                cases er : runs Φ n sb (s1.set j (.exn cc [])) with
                | no => rw [er] at h; exact h.elim
                | ex c2 a2 s2 => rw [er] at h; exact h.elim
                | ok f s2 =>
                  rw [er] at h
                  dsimp only at h
                  split at h
                  · rename_i hnx
                    cases f with
                    | nx => exact fun σ2 H2 g2 => h _ H2 (go_back g g2 hnx)
                    | bk => exact fun σ2 H2 g2 => h _ H2 (go_back g g2 hnx)
                    | ct => exact fun σ2 H2 g2 => h _ H2 (go_back g g2 hnx)
                    | rt w d => exact fun x σ2 H2 g2 r => h x _ H2 (go_back g g2 hnx) (ret_back r)
                  · exact h.elim
              · exact h.elim
            · rw [hu, if_neg Bool.false_ne_true] at h
              exact h _ _ σ1 H1 g xr
      | none =>
        cases nm with
        | some _ => cases hvr
        | none =>
          refine of_ps (ps_try_only (c := cv) (Wout := W) (tb := fun W' D σ H => ∀ pn xe, Takes (X.tr pn xe) W' → PassesOwn (model X.prog X.w) X.A X.env xe → wpSs (X.tr pn xe) body D σ H)
            (ts := fun a cls d D σ H => ∀ oe pn, Zc cls d oe → (∃ vs, oe.data = .fields vs) → wpSs (X.suite a ((a, oe) :: pn)) (b0 :: suite) D σ H) ok.hs ok.hf (hcv.names g1 g2 g3) tk
            (fun W' pn xe tk' ps' => ⟨fun pins s σ H D I h => h pn xe tk' ps' pins s I⟩) (fun a oe cls d pn hz hf => ⟨fun pins s σ H D I h => h oe pn hz hf pins s I⟩)) ?_
          intro pn xe tk' ps'
          refine hb (X.tr pn xe) c body (Otr pn xe) (Ttr pn xe) ⟨fun _ => ps', ok.hs, ok.hf⟩ cb _ tk' A H0 s σ H R D ?_
          cases eb : runs Φ n b s with
          | no => rw [eb] at h; exact h.elim
          | ok f s1 => rw [eb] at h; cases f <;> exact h
          | ex cc args s1 =>
            rw [eb] at h
            intro cls dx σ1 H1 g xr
            obtain ⟨rfl, rfl, y, Dc, hy, hmy, rfl⟩ := t.e.xo _ _ _ _ _ _ xr
            obtain ⟨exm, _, _⟩ := hq cc y Dc hy hmy
            have hb1 : ([k].any fun k => Φ.under k cc) = Φ.under k cc := by simp
            simp only [runH, hb1] at h
            refine ⟨Φ.under k cc, exm, fun hu a hna oe pn2 hz hf => ?_, fun hu => ?_⟩
            · rw [hu, if_pos rfl] at h
              refine hsb (fun _ _ _ _ => False) (X.suite a ((a, oe) :: pn2)) { c with hot := true } (b0 :: suite) (Os _ _) (Ot _ _ _ (fun _ _ _ _ _ q _ => q) (fun cc' args' v H q => q.elim)) (Ok' _ _) csu _ (takes_no rfl) A H0 s1 σ1 H1 (g.rel.swap (g.rel.noE x0)) _ ?_
              cases er : runs Φ n sb s1 with
              | no => rw [er] at h; exact h.elim
              | ex c2 a2 s2 => rw [er] at h; exact h.elim
              | ok f s2 =>
                rw [er] at h
                dsimp only at h
                split at h
                · rename_i hnx
                  have gb : ∀ {σ2 H2}, Go X.K (fun _ _ _ _ => False) A H0 s1 σ1 H1 s2 σ2 H2 → Go X.K Xn A H0 s σ H s2 σ2 H2 := fun g2 => g.trans ⟨g2.rel.swap fun i c args e => noX_at hnx e, g2.fr, g2.ex, g2.dom, g2.pin⟩
                  cases f with
                  | nx => exact fun σ2 H2 g2 => h _ H2 (gb g2)
                  | bk => exact fun σ2 H2 g2 => h _ H2 (gb g2)
                  | ct => exact fun σ2 H2 g2 => h _ H2 (gb g2)
                  | rt w d => exact fun x σ2 H2 g2 r => h x _ H2 (gb g2) r
                · exact h.elim
            · rw [hu, if_neg Bool.false_ne_true] at h
              exact h _ _ σ1 H1 g xr
    · cases ch
end
end Mi

/-! Mi13k: a suite that makes a list of new lists and changes these by a second name. -/
namespace Mi
open PySem PySem.Spec PyProof.Rows L2
def ApL (A : Addr → Prop) (l : List Addr) : Addr → Prop := fun a => A a ∨ a ∈ l
theorem apl_apt {A : Addr → Prop} {l : List Addr} {p : Addr} : Apt (ApL A l) p = ApL A (l ++ [p]) := by
  funext a
  apply propext
  simp only [Apt, ApL, List.mem_append, List.mem_singleton]
  exact ⟨fun q => by rcases q with (q | q) | q <;> simp [q], fun q => by rcases q with q | q | q <;> simp [q]⟩
theorem apl_eq {A : Addr → Prop} {l l' : List Addr} (h : ∀ a, a ∈ l ↔ a ∈ l') : ApL A l = ApL A l' := by
  funext a
  apply propext
  simp only [ApL, h]
theorem apl_in {A : Addr → Prop} {l : List Addr} {p : Addr} (h : p ∈ l) : Apt (ApL A l) p = ApL A l := by
  funext a
  apply propext
  simp only [Apt, ApL]
  exact ⟨fun q => by
    rcases q with q | q
    · exact q
    · exact .inr (q ▸ h), .inl⟩
def HbOk (H : Hp) (bs : List Addr) (acc : List (List Int)) : Prop := bs.length = acc.length ∧ ∀ (j : Nat) (b : Addr) (n : List Int), bs[j]? = some b → acc[j]? = some n → H b = some (.lst (n.map V.int))
structure Nst (K : PySem.W.Frag) (Xn : XnT) (A : Addr → Prop) (H0 : Hp) (s : Sl) (σ : L2.St) (H : Hp) (iL : Nat) (p : Addr) (bs : List Addr) (acc : List (List Int)) (s' : Sl) (σ' : L2.St) (H' : Hp) : Prop where
  rel : Rel K Xn (ApL A (p :: bs)) H0 s' σ' H'
  fr : ∀ b o, H b = some o → ¬ exc s σ b → H' b = some o
  ex : ∀ a, exc s' σ' a → exc s σ a ∨ H a = none
  dom : ∀ a, H a ≠ none → H' a ≠ none
  pin : ∀ (i : Nat) (d : D), s'[i]? = some (Slot.own true d) → σ'[i]? = σ[i]? ∧ ∃ d0 : D, s[i]? = some (Slot.own true d0)
  nw : ∀ b ∈ p :: bs, H b = none
  nd : (p :: bs).Nodup
  hp : H' p = some (.lst (bs.map V.ref))
  hb : HbOk H' bs acc
  lc : σ'[iL]? = some (some (V.ref p))
theorem rpAll_ints {A : Addr → Prop} {K : PySem.W.Frag} {H : Hp} : ∀ ns : List Int, RpAll A K H (ns.map V.int) (ns.map PyData.int)
  | [] => .nil
  | _ :: ns => .cons (.int _) (rpAll_ints ns)
theorem intsOf_mapI : ∀ ns : List Int, intsOf (ns.map PyData.int) = some ns
  | [] => rfl
  | n :: ns => by simp only [List.map_cons, intsOf, intsOf_mapI ns]
section
variable {K : PySem.W.Frag} {Xn : XnT} {A : Addr → Prop} {H0 : Hp} {s s' s2 : Sl} {σ σ' σ2 : L2.St} {H H' H2 : Hp} {iL : Nat} {p : Addr} {bs : List Addr} {acc : List (List Int)}
theorem Nst.nex (R : Rel K Xn A H0 s σ H) (N : Nst K Xn A H0 s σ H iL p bs acc s' σ' H') {b : Addr} (hb : b ∈ p :: bs) : ¬ exc s' σ' b := by
  rintro ⟨i, q, d, e1, e2⟩
  obtain ⟨a, f1, _, f3, f4⟩ := N.rel.own i q d e1
  rw [e2] at f1
  cases f1
  cases q with
  | false => exact (f4 rfl).1 (.inr hb)
  | true =>
    obtain ⟨g1, d0, g2⟩ := N.pin i d e1
    obtain ⟨a, k1, _, k3, _⟩ := R.own i true d0 g2
    rw [← g1, e2] at k1
    cases k1
    exact R.dom _ (k3 rfl) (N.nw _ hb)
theorem Nst.step (R : Rel K Xn A H0 s σ H) (N : Nst K Xn A H0 s σ H iL p bs acc s' σ' H') (g : Go K Xn (ApL A (p :: bs)) H0 s' σ' H' s2 σ2 H2) (hl : σ2[iL]? = σ'[iL]?) : Nst K Xn A H0 s σ H iL p bs acc s2 σ2 H2 := by
  refine ⟨g.rel, fun b o e n => g.fr b o (N.fr b o e n) fun q => ?_, fun a q => ?_, fun a q => g.dom a (N.dom a q), fun i d q => ?_, N.nw, N.nd, g.fr _ _ N.hp (N.nex R List.mem_cons_self), ⟨N.hb.1, fun j b n e1 e2 => g.fr _ _ (N.hb.2 j b n e1 e2) (N.nex R (List.mem_cons_of_mem _ (List.mem_of_getElem? e1)))⟩, hl.trans N.lc⟩
  · rcases N.ex b q with z | z
    · exact n z
    · rw [e] at z; cases z
  · rcases g.ex a q with z | z
    · exact N.ex a z
    · refine .inr ?_
      cases e : H a with
      | none => rfl
      | some o => exact absurd z (N.dom a (by rw [e]; simp))
  · obtain ⟨e1, d0, q1⟩ := g.pin i d q
    obtain ⟨e2, d1, q2⟩ := N.pin i d0 q1
    exact ⟨e1.trans e2, d1, q2⟩
/-- one more list -/
theorem Nst.grow (hx : XnOk Xn) (R : Rel K Xn A H0 s σ H) (N : Nst K Xn A H0 s σ H iL p bs acc s' σ' H') (g : Go K Xn (ApL A (p :: bs)) H0 s' σ' H' s2 σ' H2) {xs : List D} {ns : List Int} {x : V} (r : VR K Xn (ApL A (p :: bs)) H0 s2 σ' H' H2 (.nw (.list xs)) x) (hi : intsOf xs = some ns) :
    H2 p = some (.lst (bs.map V.ref)) ∧ ∃ b, x = .ref b ∧ Nst K Xn A H0 s σ H iL p (bs ++ [b]) (acc ++ [ns]) s2 σ' (upd H2 p (.lst (bs.map V.ref ++ [x]))) := by
  obtain ⟨b, rfl, hb, Rb, ⟨ds, ys, e1, e2, e3⟩, nb, nA⟩ := r
  cases e1
  have hys := e3.ints hi
  subst hys
  have N2 := N.step R g rfl
  have hne : p ≠ b := fun z => nA (.inr (z ▸ List.mem_cons_self))
  have hin : ∀ a ∈ bs, a ≠ b := fun a ha z => nA (.inr (z ▸ List.mem_cons_of_mem _ ha))
  have eqA : Apt (ApL A (p :: bs)) b = ApL A (p :: (bs ++ [b])) := by rw [apl_apt]; rfl
  rw [eqA] at Rb
  have hHb : H b = none := by
    cases q : H b with
    | none => rfl
    | some o => exact absurd hb (N.dom b (by rw [q]; simp))
  have Rg := (rel_grow (ys := bs.map V.ref ++ [.ref b]) hx (by rw [apl_in (l := p :: (bs ++ [b])) List.mem_cons_self]; exact Rb) N2.hp (N2.nex R List.mem_cons_self)).1
  rw [apl_in List.mem_cons_self] at Rg
  refine ⟨N2.hp, b, rfl, Rg, fun c o e n => ?_, N2.ex, fun a q => ?_, N2.pin, fun c hc => ?_, ?_, ?_, ⟨by simp [N2.hb.1], fun j c n e1 e2' => ?_⟩, N2.lc⟩
  · rw [upd_ne (fun z => by rw [z, N.nw p List.mem_cons_self] at e; cases e)]
    exact N2.fr c o e n
  · by_cases hq : a = p
    · rw [hq, upd_same]; simp
    · rw [upd_ne hq]; exact N2.dom a q
  · rw [← List.cons_append, List.mem_append, List.mem_singleton] at hc
    rcases hc with hc | hc
    · exact N.nw c hc
    · rw [hc]; exact hHb
  · rw [← List.cons_append, List.nodup_append]
    refine ⟨N.nd, by simp, ?_⟩
    intro a ha c hc
    rw [List.mem_singleton] at hc
    subst hc
    rcases List.mem_cons.mp ha with z | z
    · rw [z]; exact hne
    · exact hin a z
  · rw [upd_same, List.map_append]; rfl
  · have hcp : c ≠ p := by
      have hc := List.mem_of_getElem? e1
      rw [List.mem_append, List.mem_singleton] at hc
      rcases hc with hc | hc
      · exact fun z => (List.nodup_cons.mp N.nd).1 (z ▸ hc)
      · exact fun z => hne (z ▸ hc)
    rw [upd_ne hcp]
    by_cases hj : j < bs.length
    · rw [List.getElem?_append_left hj] at e1
      rw [List.getElem?_append_left (by rw [← N.hb.1]; exact hj)] at e2'
      exact N2.hb.2 j c n e1 e2'
    · rw [List.getElem?_append_right (by omega)] at e1
      rw [List.getElem?_append_right (by rw [← N.hb.1]; omega)] at e2'
      have z : j - bs.length = 0 := by
        have := (List.getElem?_eq_some_iff.mp e1).1
        simp at this
        omega
      rw [z] at e1
      rw [← N.hb.1, z] at e2'
      simp at e1 e2'
      subst e1 e2'
      exact e2
/-- at the end -/
theorem Nst.unap (R : Rel K Xn A H0 s σ H) (N : Nst K Xn A H0 s σ H iL p bs acc s' σ' H') : Go K Xn A H0 s σ H s' σ' H' ∧ RetR K A H0 s' σ' H' true (.list (listsD acc)) (.ref p) := by
  have zz : ∀ b, Zs A s' σ' b → Zs (ApL A (p :: bs)) s' σ' b := fun b q => q.elim (fun q => .inl (.inl q)) .inr
  have zz' : ∀ b, Apt A p b → Zs (ApL A (p :: bs)) s' σ' b := fun b q => q.elim (fun q => .inl (.inl q)) fun q => .inl (.inr (q ▸ List.mem_cons_self))
  have nA : ∀ b ∈ p :: bs, ¬ A b := fun b hb q => R.dom b q (N.nw b hb)
  refine ⟨⟨⟨N.rel.len, fun a h => N.rel.dom a (.inl h), N.rel.dom0, fun i d h => ?_, fun i q d h => ?_, N.rel.inj, N.rel.exn⟩, N.fr, N.ex, N.dom, N.pin⟩, p, rfl, R.h0 (N.nw p List.mem_cons_self), nA p List.mem_cons_self, ⟨_, _, rfl, N.hp, ?_⟩, fun i d h => ?_⟩
  · obtain ⟨v, h1, h2⟩ := N.rel.val i d h
    exact ⟨v, h1, h2.weak zz⟩
  · obtain ⟨a, h1, ⟨ds, xs, r1, r2, r3⟩, h3, h4⟩ := N.rel.own i q d h
    refine ⟨a, h1, ⟨ds, xs, r1, r2, r3.weak zz⟩, fun z => ?_, fun z => ⟨fun y => (h4 z).1 (.inl y), (h4 z).2⟩⟩
    subst z
    obtain ⟨g1, d0, g2⟩ := N.pin i d h
    obtain ⟨a', k1, _, k3, _⟩ := R.own i true d0 g2
    rw [← g1, h1] at k1
    cases k1
    exact k3 rfl
  · have gen : ∀ (bs : List Addr) (acc : List (List Int)), HbOk H' bs acc → (∀ b ∈ bs, ¬ Apt A p b) → RpAll (Apt A p) K H' (bs.map V.ref) (listsD acc) := by
      intro bs
      induction bs with
      | nil =>
        intro acc h _
        cases acc with
        | nil => exact .nil
        | cons _ _ => simp [HbOk] at h
      | cons b bs ih =>
        intro acc h q
        cases acc with
        | nil => simp [HbOk] at h
        | cons n acc =>
          exact .cons (.lst (h.2 0 b n rfl rfl) (q b List.mem_cons_self) (rpAll_ints n)) (ih acc ⟨by simpa using h.1, fun j b n e1 e2 => h.2 (j + 1) b n (by simpa using e1) (by simpa using e2)⟩ fun b hb => q b (List.mem_cons_of_mem _ hb))
    refine gen bs acc N.hb fun b hb q => ?_
    rcases q with q | q
    · exact nA b (List.mem_cons_of_mem _ hb) q
    · exact (List.nodup_cons.mp N.nd).1 (q ▸ hb)
  · obtain ⟨a, h1, ⟨ds, xs, r1, r2, r3⟩, _⟩ := N.rel.own i true d h
    exact ⟨a, h1, ⟨ds, xs, r1, r2, r3.weak zz'⟩⟩
/-- a slot takes what is held apart, as if it were the caller's -/
theorem Rel.setPar {b : Addr} {i : Nat} {n : List Int} (R : Rel K Xn A H0 s σ H) (hA : A b) (hb : H b = some (.lst (n.map V.int))) (ne : ¬ exc s σ b) : Rel K Xn A H0 (s.set i (.own true (.list (n.map .int)))) (σ.set i (some (.ref b))) H := by
  have zz : ∀ a, Zs A (s.set i (.own true (.list (n.map .int)))) (σ.set i (some (.ref b))) a → Zs A s σ a := fun a q => by
    rcases q with q | ⟨j, q, e, e1, e2⟩
    · exact .inl q
    · by_cases hj : j = i
      · subst hj
        obtain ⟨z, _⟩ := get_set_eq e2
        cases z
        exact .inl hA
      · rw [get_set_ne hj] at e1 e2
        exact .inr ⟨j, q, e, e1, e2⟩
  have nn : ∀ (j : Nat) (q : Bool) (e : D) (a : Addr), s[j]? = some (Slot.own q e) → σ[j]? = some (some (V.ref a)) → a ≠ b := fun j q e a h1 h2 z => ne (z ▸ ⟨j, q, e, h1, h2⟩)
  refine ⟨by simpa using R.len, R.dom, R.dom0, fun j e h1 => ?_, fun j q e h1 => ?_, fun j k q r e f a h1 h2 h3 h4 => ?_, fun j c args h1 => ?_⟩
  · by_cases hj : j = i
    · subst hj
      obtain ⟨z, _⟩ := get_set_eq h1
      cases z
    · rw [get_set_ne hj] at h1
      obtain ⟨w, e1, e2⟩ := R.val j e h1
      exact ⟨w, by rw [get_set_ne hj]; exact e1, e2.weak zz⟩
  · by_cases hj : j = i
    · subst hj
      obtain ⟨z, hlt⟩ := get_set_eq h1
      cases z
      exact ⟨b, List.getElem?_set_self (by rw [← R.len]; exact hlt), ⟨_, _, rfl, hb, rpAll_ints n⟩, fun _ => hA, fun z => by cases z⟩
    · rw [get_set_ne hj] at h1
      obtain ⟨a, e1, ⟨ds, xs, r1, r2, r3⟩, e3⟩ := R.own j q e h1
      exact ⟨a, by rw [get_set_ne hj]; exact e1, ⟨ds, xs, r1, r2, r3.weak zz⟩, e3⟩
  · by_cases hj : j = i
    · by_cases hk : k = i
      · rw [hj, hk]
      · subst hj
        obtain ⟨z, _⟩ := get_set_eq h3
        cases z
        rw [get_set_ne hk] at h2 h4
        exact absurd rfl (nn k r f _ h2 h4)
    · by_cases hk : k = i
      · subst hk
        obtain ⟨z, _⟩ := get_set_eq h4
        cases z
        rw [get_set_ne hj] at h1 h3
        exact absurd rfl (nn j q e _ h1 h3)
      · rw [get_set_ne hj] at h1 h3
        rw [get_set_ne hk] at h2 h4
        exact R.inj j k q r e f a h1 h2 h3 h4
  · by_cases hj : j = i
    · subst hj
      obtain ⟨z, _⟩ := get_set_eq h1
      cases z
    · rw [get_set_ne hj] at h1
      obtain ⟨w, e1, e2⟩ := R.exn j c args h1
      exact ⟨w, by rw [get_set_ne hj]; exact e1, e2⟩
theorem Rel.goNo' (R : Rel K Xn A H0 s σ H) (i : Nat) : Go K Xn A H0 s σ H (s.set i .no) σ H := by
  cases e : σ[i]? with
  | none =>
    have hi : s.length ≤ i := by rw [R.len]; exact List.getElem?_eq_none_iff.mp e
    rw [List.set_eq_of_length_le hi]
    exact Go.refl R
  | some w =>
    have h : σ.set i w = σ := by
      obtain ⟨hi, rfl⟩ := List.getElem?_eq_some_iff.mp e
      exact List.set_getElem_self hi
    have g := R.goNo (i := i) (w := w)
    rw [h] at g
    exact g
end
section
variable {T : Tx} {Φ : Env} {Xn : XnT} {Xr : XrT} {n : Nat}
def SOutF (K : PySem.W.Frag) (Xn : XnT) (A : Addr → Prop) (H0 : Hp) (s : Sl) (σ : L2.St) (H : Hp) (r : Mi.R Fl) (D : Ends) : Prop := match r with
  | .ok .nx s' => ∀ H', Go K Xn A H0 s σ H s' σ H' → D.nx σ H'
  | _ => False
theorem setIx_at {i : Nat} {ix e : E} {X : Cx} {c : Cxt} {pst : Stmt} (O : Okx X c) (t : Okt X T c Φ Xn Xr) (ck : chkS T c (.setIx i ix e) pst = true) {W : WX} (tk : Takes X W) {A : Addr → Prop} {H0 : Hp} {s : Sl} {σ : L2.St} {H : Hp}
    (R : Rel X.K Xn A H0 s σ H) {D : Ends} (h : SOutF X.K Xn A H0 s σ H (setIxR Φ i ix e s) D) : wpS X pst D σ H := by
  cases pst <;> try (simp only [chkS, Bool.false_eq_true] at ck; done)
  rename_i tgs v pos
  simp only [chkS] at ck
  split at ck
  · rename_i x px ix' p' hnm
    obtain rfl := of_setNm hnm
    simp only [Bool.and_eq_true, decide_eq_true_eq] at ck
    obtain ⟨⟨⟨⟨hN, hv⟩, ci⟩, nsl⟩, ce⟩ := ck
    obtain ⟨v1, v2, v3⟩ := O.vis hv
    have pv : PE X (.Name x px) (tVar i) := pe_var (i := i) (by rw [O.N]; exact hN) v1 v2 v3
    have pg : PG X (.Subscript (.Name x px) ix' p') (gSub (tVar i) (wpE X ix') rSetL) := by
      refine pg_sub pv pe_w set_list ?_
      intro v; cases ix' <;> first | rfl | cases nsl
    have hs : swapsWithSole [.Subscript (.Name x px) ix' p'] v pos.line X.env = pure false := by
      show swapsWith v (some (.Subscript (.Name x px) ix' p')) pos.line X.env = pure false
      cases v <;> rfl
    refine of_ps (ps_asg pe_w pg hs (by cases v <;> rfl) rfl) ?_
    rw [setIxR] at h
    refine (snd e).1 X c v O t ce W tk A H0 s σ H R _ ?_
    cases ea : ev Φ e s with
    | no => rw [ea] at h; exact h.elim
    | ex cc args s1 => rw [ea] at h; exact h.elim
    | ok w s1 =>
      rw [ea] at h
      dsimp only at h
      intro x1 H1 g1 r1
      split at h
      · rename_i d s2 e2
        obtain ⟨g2, r2⟩ := esc_ok g1.rel r1.late e2
        have g12 := g1.trans g2
        split at h
        · rename_i p0 d0 hs0
          obtain ⟨a0, f1, _⟩ := g2.rel.own i p0 d0 hs0
          refine ⟨_, f1, ?_⟩
          refine (snd ix).1 X c ix' O t ci W tk A H0 s2 σ H1 g2.rel _ ?_
          cases ei : ev Φ ix s2 with
          | no => rw [ei] at h; exact h.elim
          | ex cc args s3 => rw [ei] at h; exact h.elim
          | ok u s3 =>
            rw [ei] at h
            intro iv H3 g3 r3
            cases u with
            | nw _ => exact h.elim
            | br _ => exact h.elim
            | dt du =>
              cases du <;> try exact h.elim
              rename_i k
              dsimp only at h
              have r3 : Rp _ _ _ _ _ := r3
              have e3 := r3.int_inv
              subst e3
              split at h
              · rename_i p1 xs hs1
                split at h
                · rename_i j hj
                  obtain ⟨a1, f2, ⟨ds1, xs1, q1, q2, q3⟩, _⟩ := g3.rel.own i p1 _ hs1
                  rw [f1] at f2
                  cases f2
                  cases q1
                  have rs := q3.set (g3.rp r2) j
                  exact ⟨a0, xs1, k, j, rfl, rfl, q2, by rw [q3.length]; exact hj, h _ ((g12.trans g3).trans (g3.rel.write t.xn hs1 f1 rs))⟩
                · exact h.elim
              · exact h.elim
        · exact h.elim
      · exact h.elim
  · cases ck
theorem getD_map {b : List Int} {j : Nat} {x : Int} (h : b[j]? = some x) : (b.map PyData.int)[j]? = some (.int x) := by rw [List.getElem?_map, h]; rfl
/-- the change of one list, in a state in which its slot may be changed -/
theorem flip_run {iC iM : Nat} {m : Int} {b b' : List Int} {s : Sl} {q : Bool} (h1 : s[iC]? = some (.own q (.list (b.map .int)))) (h2 : s[iM]? = some (.val (.int m))) (h : flipL m b = some b') :
    setIxR Φ iC (.var iM) (.bin .sub (.int 1) (.ix (.var iC) (.var iM))) s = .ok .nx (s.set iC (.own q (.list (b'.map .int)))) := by
  unfold flipL at h
  split at h
  · rename_i j hj
    obtain ⟨x, h3, rfl⟩ := Option.map_eq_some_iff.mp h
    have h4 : L2.atI (b.map PyData.int) m = some (.int x) := by
      unfold L2.atI
      rw [List.length_map, hj]
      exact getD_map h3
    simp only [setIxR, ev, h1, h2, Vl.get, ixD, h4, ofO, binD, esc, List.length_map, hj, List.map_set, Option.map_some]
  · cases h
/-- the first statement -/
theorem kuhn1 {iL iC : Nat} {X : Cx} {c : Cxt} {pst : Stmt} (O : Okx X c) (t : Okt X T c Φ Xn Xr) (ck : chkS T c (.asg (.nm iL) (.lst (.cons (.blt .list (.cons (.var iC) .nil)) .nil))) pst = true) {W : WX} (tk : Takes X W) {A : Addr → Prop} {H0 : Hp} {s : Sl} {σ : L2.St} {H : Hp}
    (R : Rel X.K Xn A H0 s σ H) {D : Ends} {ns : List Int} (h1 : intsAt s iC = some ns) (h2 : canSet s iL = true) (k : ∀ p b H', Nst X.K Xn A H0 s σ H iL p [b] [ns] (s.set iL .no) (σ.set iL (some (.ref p))) H' → D.nx (σ.set iL (some (.ref p))) H') : wpS X pst D σ H := by
  cases pst <;> try (simp only [chkS, Bool.false_eq_true] at ck; done)
  rename_i tgs v pos
  match tgs, ck with
  | [tg'], ck =>
    simp only [chkS, Bool.and_eq_true, Bool.not_eq_true'] at ck
    obtain ⟨⟨⟨_, cg⟩, ce⟩, _⟩ := ck
    cases tg' <;> simp only [chkG, Bool.false_eq_true] at cg
    rename_i y py
    simp only [Bool.and_eq_true, decide_eq_true_eq] at cg
    obtain ⟨l1, l2⟩ := O.loc cg.2
    cases v <;> try (simp only [chkE, Bool.false_eq_true] at ce; done)
    rename_i es pp
    simp only [chkE] at ce
    match es, ce with
    | [x], ce =>
      simp only [chkEs, Bool.and_true] at ce
      refine of_ps (ps_asg pe_w pg_w rfl rfl rfl) ?_
      refine of_pe (pe_lst (pa_cons pe_w pa_nil (nostar (chk_noStar ce)))) ?_
      refine (snd (.blt .list (.cons (.var iC) .nil))).1 X c x O t ce W tk A H0 s σ H R _ ?_
      unfold intsAt at h1
      split at h1
      · rename_i xs hs
        have e1 : ev Φ (.blt .list (.cons (.var iC) .nil)) s = .ok (.nw (.list xs)) s := by simp only [ev, evs, hs, gets, Vl.get, bltD, ofO]
        rw [e1]
        intro x1 H1 g1 r1
        obtain ⟨b, rfl, hb, Rb, ⟨ds, ys, z1, z2, z3⟩, nb, nA⟩ := r1
        cases z1
        have hys := z3.ints h1
        subst hys
        refine ⟨by show 1 ≤ sizeLine; decide +kernel, fun p hp => ?_⟩
        refine of_pg (pg_name (i := iL) O.nd (by rw [O.N]; exact cg.1) l1 l2) ?_
        have hpb : p ≠ b := fun z => by rw [z, z2] at hp; cases hp
        have Rp := Rb.apart t.xn (o := .lst [.ref b]) hp
        have e2 : Apt (Apt A b) p = ApL A [p, b] := by
          funext a
          apply propext
          simp only [Apt, ApL, List.mem_cons, List.not_mem_nil, or_false]
          exact ⟨fun q => by rcases q with (q | q) | q <;> simp [q], fun q => by rcases q with q | q | q <;> simp [q]⟩
        rw [e2] at Rp
        refine k p b _ ⟨Rp.setNo, fun a o e n => ?_, fun a q => ?_, fun a q => ?_, fun i d q => ?_, fun a ha => ?_, ?_, by rw [upd_same]; rfl, ⟨rfl, fun j a n e1 e2 => ?_⟩, List.getElem?_set_self (by rw [← R.len]; exact canSet_lt h2)⟩
        · rw [upd_ne (fun z => by rw [z, g1.none_of hp] at e; cases e)]
          exact g1.fr a o e n
        · exact .inl (exc_set (fun p d => by intro z; cases z) q)
        · by_cases hq : a = p
          · rw [hq, upd_same]; simp
          · rw [upd_ne hq]; exact g1.dom a q
        · exact pin_set (fun d => by intro z; cases z) i d q
        · simp only [List.mem_cons, List.not_mem_nil, or_false] at ha
          rcases ha with rfl | rfl
          · exact g1.none_of hp
          · exact hb
        · simp [hpb]
        · cases j with
          | zero =>
            simp at e1 e2
            subst e1 e2
            rw [upd_ne (Ne.symm hpb)]
            exact z2
          | succ j => simp at e1
      · cases h1
    | [], ce => simp [chkEs] at ce
    | _ :: _ :: _, ce => simp [chkEs] at ce
  | [], ck => simp [chkS] at ck
  | _ :: _ :: _, ck => simp [chkS] at ck
/-- one more list of the list -/
theorem kuhn2 {iL iC : Nat} {X : Cx} {c : Cxt} {pst : Stmt} (O : Okx X c) (t : Okt X T c Φ Xn Xr) (ck : chkS T c (.expr (.mth .append iL (.cons (.blt .list (.cons (.var iC) .nil)) .nil))) pst = true) {W : WX} (tk : Takes X W) {A : Addr → Prop} {H0 : Hp} {s s' : Sl} {σ σ' : L2.St} {H H' : Hp}
    (R : Rel X.K Xn A H0 s σ H) {p : Addr} {bs : List Addr} {acc : List (List Int)} (N : Nst X.K Xn A H0 s σ H iL p bs acc s' σ' H') {D : Ends} {ns : List Int} (h1 : intsAt s' iC = some ns) (h2 : acc.length < sizeLine)
    (k : ∀ bs' H2, Nst X.K Xn A H0 s σ H iL p bs' (acc ++ [ns]) s' σ' H2 → D.nx σ' H2) : wpS X pst D σ' H' := by
  cases pst <;> try (simp only [chkS, Bool.false_eq_true] at ck; done)
  rename_i v pos
  simp only [chkS, Bool.and_eq_true] at ck
  have hsw : swapsWith v none pos.line X.env = pure false := by
    have h1 := ck.1
    cases v <;> first | rfl | cases h1
  refine of_ps (ps_expr pe_w hsw) ?_
  replace ck := ck.2
  cases v <;> try (simp only [chkE, Bool.false_eq_true] at ck; done)
  rename_i fe as kws cpos
  cases fe <;> try (simp only [chkE, Bool.false_eq_true] at ck; done)
  rename_i o a ap
  cases o <;> try (simp only [chkE, Bool.false_eq_true] at ck; done)
  rename_i x px
  match kws, ck with
  | _ :: _, ck => simp [chkE] at ck
  | [], ck =>
    simp only [chkE, Bool.and_eq_true, decide_eq_true_eq] at ck
    obtain ⟨⟨⟨⟨⟨⟨rfl, hN⟩, hv⟩, hes'⟩, _⟩, hln⟩, hlen⟩ := ck
    match as, hes' with
    | [], hes' => simp [chkEs] at hes'
    | _ :: _ :: _, hes' => simp [chkEs] at hes'
    | [e], hes' =>
      have hfew : ((backTo cpos (starEach [e] X.env)).all (fun x => !x.1) && (backToKw cpos (keywordEach [] X.env)).all (fun x => x.1.isSome)
          && decide ([e].length + ([] : List Keyword).length + (if ([] : List Keyword).isEmpty then 0 else 1) < 30)) = true := by
          rw [chks_all hes']
          simpa [keywordEach, backToKw] using hlen
      simp only [chkEs, Bool.and_true] at hes'
      obtain ⟨v1, v2, v3⟩ := O.vis hv
      have pv : PE X (.Name x px) (tVar iL) := pe_var (i := iL) (by rw [O.N]; exact hN) v1 v2 v3
      have ty : tyV X.K "list" (V.ref p) H' := Or.inl ⟨rfl, _, SqL.of N.hp⟩
      refine of_pe (pe_bm PySem.F.plainAttrs_list PySem.F.slot_list_append PySem.F.type_list_append mt_append pv (pa_cons pe_w pa_nil (nostar (chk_noStar hes'))) rfl hfew hln (nostar (chk_noStar hes')) rfl) ⟨_, N.lc, ty, ?_⟩
      refine (snd (.blt .list (.cons (.var iC) .nil))).1 X c e O t hes' W tk _ H0 s' σ' H' N.rel _ ?_
      unfold intsAt at h1
      split at h1
      · rename_i xs hs
        have e1 : ev Φ (.blt .list (.cons (.var iC) .nil)) s' = .ok (.nw (.list xs)) s' := by simp only [ev, evs, hs, gets, Vl.get, bltD, ofO]
        rw [e1]
        intro x1 H1 g1 r1
        obtain ⟨q1, b, rfl, N2⟩ := N.grow t.xn R g1 r1 h1
        exact ⟨p, _, _, rfl, rfl, q1, by rw [List.length_map, N.hb.1]; exact h2, k _ _ N2⟩
      · cases h1
theorem for_rng {i : Nat} {b : Ss} {X : Cx} {c : Cxt} {pst : Stmt} (O : Okx X c) (t : Okt X T c Φ Xn Xr) (ok : Oks X) (ck : chkS T c (.for_ (.nm i) (.rng1 (.int 3)) b) pst = true) {W : WX} (tk : Takes X W) {A : Addr → Prop} {H0 : Hp} {s : Sl} {σ : L2.St} {H : Hp}
    (R : Rel X.K Xn A H0 s σ H) {D : Ends} (Pv : Nat → L2.St → Hp → Prop) (h0 : ∀ H1, Go X.K Xn A H0 s σ H s σ H1 → Pv 0 σ H1)
    (hs : ∀ body, chkSs T c b body = true → ∀ j σ1 H1, j < 3 → Pv j σ1 H1 → wpSs X body { D with nx := Pv (j + 1), ct := Pv (j + 1), bk := D.nx } (σ1.set i (some (.int (j : Nat)))) H1)
    (hd : ∀ σ1 H1, Pv 3 σ1 H1 → D.nx σ1 H1) : wpS X pst D σ H := by
  cases pst <;> try (simp only [chkS, Bool.false_eq_true] at ck; done)
  rename_i pt pi pb pe pos
  cases pe with
  | cons _ _ => simp [chkS] at ck
  | nil =>
    simp only [chkS, Bool.and_eq_true, Bool.not_eq_true'] at ck
    obtain ⟨⟨⟨hh, cg⟩, ci⟩, cb⟩ := ck
    have hf := chkI_fold ci X.env
    cases pt <;> simp only [chkG, Bool.false_eq_true] at cg
    rename_i y py
    simp only [Bool.and_eq_true, decide_eq_true_eq] at cg
    obtain ⟨l1, l2⟩ := O.loc cg.2
    cases pi <;> try (simp only [chkI, Bool.false_eq_true] at ci; done)
    rename_i fe as kws cpos
    cases fe <;> try (simp only [chkI, Bool.false_eq_true] at ci; done)
    rename_i f p
    match as, kws, ci with
    | [x], [], ci =>
      simp only [chkI, Bool.and_eq_true, decide_eq_true_eq] at ci
      obtain ⟨⟨rfl, hg⟩, ca⟩ := ci
      obtain ⟨g1, _⟩ := O.gl hg
      refine of_ps (ps_for (ok.ps (O.calm hh)) (O.calm hh) (pi_range1 g1 (t.blt _ (by decide +kernel)) (pa_cons pe_w pa_nil (nostar (chk_noStar ca))) (nostar (chk_noStar ca))) (pg_name (i := i) O.nd (by rw [O.N]; exact cg.1) l1 l2) pss_w hf) ?_
      refine (snd (.int 3)).1 X c x O t ca W tk A H0 s σ H R _ ?_
      intro y H1 g r
      obtain rfl := Rp.int_inv r
      refine ⟨3, rfl, by decide, by decide, ?_⟩
      refine for_it walk_range Pv (h0 H1 g) (fun _ _ _ _ _ => trivial) (fun j x σ1 H1 H2 hj hp y => ?_) hd
      obtain ⟨rfl, rfl⟩ := y
      have e : (0 : Int) + (j : Nat) = (j : Nat) := by omega
      show wpSs X pb _ (σ1.set i (some (.int ((0 : Int) + (j : Nat))))) H2
      rw [e]
      exact hs pb cb j σ1 H2 (by simpa using hj) hp
    | [], _, ci => simp [chkI] at ci
    | _ :: _ :: _, _, ci => simp [chkI] at ci
    | [_], _ :: _, ci => simp [chkI] at ci
theorem rng3 {j : Nat} (h : j < 3) : (rangeD 0 3).drop j = .int (j : Nat) :: (rangeD 0 3).drop (j + 1) := by
  match j, h with
  | 0, _ => rfl
  | 1, _ => rfl
  | 2, _ => rfl
/-- the first loop -/
theorem kuhn3 {iL iC iK : Nat} {e : E} {X : Cx} {c : Cxt} {pst : Stmt} (hLK : iL ≠ iK) (O : Okx X c) (t : Okt X T c Φ Xn Xr) (ok : Oks X) (ck : chkS T c (.for_ (.nm iK) (.rng1 (.int 3)) (.cons (.setIx iC e (.int 1)) (.cons (.expr (.mth .append iL (.cons (.blt .list (.cons (.var iC) .nil)) .nil))) .nil))) pst = true) {W : WX} (tk : Takes X W) {A : Addr → Prop} {H0 : Hp} {s s' s1 : Sl} {σ σ' : L2.St} {H H' : Hp}
    (R : Rel X.K Xn A H0 s σ H) {p : Addr} {bs : List Addr} {acc acc1 : List (List Int)} (N : Nst X.K Xn A H0 s σ H iL p bs acc s' σ' H') {D : Ends} (h : kuhnA Φ iC iK e (rangeD 0 3) acc s' = .ok acc1 s1)
    (k : ∀ bs' σ2 H2, Nst X.K Xn A H0 s σ H iL p bs' acc1 s1 σ2 H2 → D.nx σ2 H2) : wpS X pst D σ' H' := by
  refine for_rng O t ok ck tk N.rel (fun j σ2 H2 => ∃ bs2 acc2 s2, Nst X.K Xn A H0 s σ H iL p bs2 acc2 s2 σ2 H2 ∧ kuhnA Φ iC iK e ((rangeD 0 3).drop j) acc2 s2 = .ok acc1 s1) (fun H1 g => ⟨bs, acc, s', N.step R g rfl, h⟩) (fun body cb j σ2 H2 hj hp => ?_) fun σ2 H2 hp => ?_
  · obtain ⟨bs2, acc2, s2, N2, h2⟩ := hp
    rw [rng3 hj, kuhnA] at h2
    simp only [bindD] at h2
    by_cases hk : canSet s2 iK = true
    · rw [if_pos hk] at h2
      dsimp only at h2
      have N3 := N2.step R (N2.rel.goVal (i := iK) (v := .int (j : Nat)) (.int _)) (get_set_ne hLK)
      match body, cb with
      | [], cb => simp [chkSs] at cb
      | [_], cb => simp [chkSs] at cb
      | _ :: _ :: _ :: _, cb => simp [chkSs] at cb
      | [b1, b2], cb =>
        simp only [chkSs, Bool.and_true, Bool.and_eq_true] at cb
        refine of_pss (pss_cons ps_w pss_w) ?_
        refine setIx_at O t cb.1 tk N3.rel ?_
        cases e1 : setIxR Φ iC e (.int 1) (s2.set iK (.val (.int (j : Nat)))) with
        | no => rw [e1] at h2; cases h2
        | ex cc args s3 => rw [e1] at h2; cases h2
        | ok f s3 =>
          rw [e1] at h2
          cases f <;> try (cases h2; done)
          dsimp only at h2
          intro H3 g
          have N4 := N3.step R g rfl
          cases e2 : intsAt s3 iC with
          | none => rw [e2] at h2; cases h2
          | some ns =>
            rw [e2] at h2
            dsimp only at h2
            by_cases hz : acc2.length < sizeLine
            · rw [if_pos (decide_eq_true hz)] at h2
              refine of_pss (pss_cons ps_w pss_nil) ?_
              exact kuhn2 O t cb.2 tk R N4 e2 hz fun bs' H4 N5 => ⟨bs', _, s3, N5, h2⟩
            · rw [if_neg (by simpa using hz)] at h2
              cases h2
    · rw [if_neg hk] at h2
      cases h2
  · obtain ⟨bs2, acc2, s2, N2, h2⟩ := hp
    have e3 : (rangeD 0 3).drop 3 = [] := rfl
    rw [e3, kuhnA] at h2
    cases h2
    exact k bs2 σ2 H2 N2
theorem flips_ix {m : Int} : ∀ {acc acc' : List (List Int)}, flipsL m acc = some acc' → acc'.length = acc.length ∧ ∀ (j : Nat) (n : List Int), acc[j]? = some n → ∃ n', acc'[j]? = some n' ∧ flipL m n = some n'
  | [], acc', h => by
    simp only [flipsL, Option.some.injEq] at h
    subst h
    exact ⟨rfl, fun j n e => by simp at e⟩
  | b :: bs, acc', h => by
    simp only [flipsL] at h
    cases e1 : flipL m b with
    | none => rw [e1] at h; cases h
    | some b' =>
      rw [e1] at h
      dsimp only at h
      cases e2 : flipsL m bs with
      | none => rw [e2] at h; cases h
      | some bs' =>
        rw [e2] at h
        cases h
        obtain ⟨l, f⟩ := flips_ix e2
        refine ⟨by simp [l], fun j n e => ?_⟩
        cases j with
        | zero => simp at e; subst e; exact ⟨b', rfl, e1⟩
        | succ j => exact f j n (by simpa using e)
theorem mix_ix {α : Type} {as bs : List α} {j k : Nat} (hl : as.length = bs.length) : (as.take j ++ bs.drop j)[k]? = if k < j then as[k]? else bs[k]? := by
  by_cases hk : k < j
  · rw [if_pos hk]
    by_cases hk2 : k < as.length
    · rw [List.getElem?_append_left (by simp; omega), List.getElem?_take_of_lt hk]
    · rw [List.getElem?_eq_none (by simp; omega), List.getElem?_eq_none (by omega)]
  · rw [if_neg hk]
    by_cases hj : j ≤ as.length
    · rw [List.getElem?_append_right (by simp; omega), List.length_take, Nat.min_eq_left hj, List.getElem?_drop]
      congr 1
      omega
    · rw [List.getElem?_eq_none (by simp; omega), List.getElem?_eq_none (by omega)]
/-- the loop that changes each list by a second name -/
theorem kuhn4 {iL iC iM : Nat} {X : Cx} {c : Cxt} {pst : Stmt} (hLC : iL ≠ iC) (hCM : iC ≠ iM) (O : Okx X c) (t : Okt X T c Φ Xn Xr) (ok : Oks X) (ck : chkS T c (.for_ (.nm iC) (.e (.var iL)) (.cons (.setIx iC (.var iM) (.bin .sub (.int 1) (.ix (.var iC) (.var iM)))) .nil)) pst = true) {W : WX} (tk : Takes X W) {A : Addr → Prop} {H0 : Hp} {s s2 : Sl} {σ σ' : L2.St} {H H' : Hp}
    (R : Rel X.K Xn A H0 s σ H) {p : Addr} {bs : List Addr} {acc acc' : List (List Int)} (N : Nst X.K Xn A H0 s σ H iL p bs acc s2 σ' H') {D : Ends} {m : Int} (hm : s2[iM]? = some (.val (.int m))) (hc : iC < s2.length) (hf : flipsL m acc = some acc')
    (k : ∀ σ2 H2, Nst X.K Xn A H0 s σ H iL p bs acc' (s2.set iC .no) σ2 H2 → D.nx σ2 H2) : wpS X pst D σ' H' := by
  cases pst <;> try (simp only [chkS, Bool.false_eq_true] at ck; done)
  rename_i pt pi pb pe pos
  cases pe with
  | cons _ _ => simp [chkS] at ck
  | nil =>
    simp only [chkS, Bool.and_eq_true, Bool.not_eq_true'] at ck
    obtain ⟨⟨⟨hh, cg⟩, ci⟩, cb⟩ := ck
    have hfo := chkI_fold ci X.env
    cases pt <;> simp only [chkG, Bool.false_eq_true] at cg
    rename_i y py
    simp only [Bool.and_eq_true, decide_eq_true_eq] at cg
    obtain ⟨l1, l2⟩ := O.loc cg.2
    simp only [chkI] at ci
    cases pi <;> try (simp only [chkE, Bool.false_eq_true] at ci; done)
    rename_i x px
    simp only [chkE, Bool.and_eq_true, decide_eq_true_eq] at ci
    obtain ⟨v1, v2, v3⟩ := O.vis ci.2
    have pv : PE X (.Name x px) (tVar iL) := pe_var (i := iL) (by rw [O.N]; exact ci.1) v1 v2 v3
    refine of_ps (ps_for (ok.ps (O.calm hh)) (O.calm hh) (pi_list pv) (pg_name (i := iC) O.nd (by rw [O.N]; exact cg.1) l1 l2) pss_w hfo) ?_
    obtain ⟨hl, hfx⟩ := flips_ix hf
    have hbl := N.hb.1
    refine ⟨_, N.lc, p, rfl, ⟨_, SqL.of N.hp⟩, ?_⟩
    refine for_it (walk_list (a := p) (xs := bs.map V.ref)) (fun j σ1 H1 => Nst X.K Xn A H0 s σ H iL p bs (acc'.take j ++ acc.drop j) (s2.set iC .no) σ1 H1) ?_ (fun j σ1 H1 _ N1 => SqL.of N1.hp) (fun j x σ1 H9 H1 hj N1 y => ?_) (fun σ1 H1 N1 => ?_)
    · rw [List.take_zero, List.drop_zero, List.nil_append]
      exact N.step R (N.rel.goNo' iC) rfl
    · obtain ⟨rfl, hx⟩ := y
      rw [List.length_map] at hj
      rw [List.getElem?_map] at hx
      obtain ⟨b, hb⟩ : ∃ b, bs[j]? = some b := ⟨bs[j], by simp [hj]⟩
      rw [hb] at hx
      cases hx
      obtain ⟨n, hn⟩ : ∃ n, acc[j]? = some n := ⟨acc[j]'(by omega), by simp [hbl ▸ hj]⟩
      obtain ⟨n', hn', hfl⟩ := hfx j n hn
      have hmem : b ∈ p :: bs := List.mem_cons_of_mem _ (List.mem_of_getElem? hb)
      have hnb : H1 b = some (.lst (n.map V.int)) := N1.hb.2 j b n hb (by rw [mix_ix hl, if_neg (Nat.lt_irrefl j)]; exact hn)
      -- the name is the list's own, as if it were the caller's
      have R3 := N1.rel.setPar (i := iC) (n := n) (.inr hmem) hnb (N1.nex R hmem)
      show wpSs X pb _ (σ1.set iC (some (.ref b))) H1
      match pb, cb with
      | [], cb => simp [chkSs] at cb
      | _ :: _ :: _, cb => simp [chkSs] at cb
      | [b1], cb =>
        simp only [chkSs, Bool.and_true] at cb
        refine of_pss (pss_cons ps_w pss_nil) ?_
        refine setIx_at O t cb tk R3 ?_
        have hC : ((s2.set iC .no).set iC (.own true (.list (n.map .int))))[iC]? = some (.own true (.list (n.map .int))) := List.getElem?_set_self (by simpa using hc)
        have hM : ((s2.set iC .no).set iC (.own true (.list (n.map .int))))[iM]? = some (.val (.int m)) := by rw [get_set_ne (Ne.symm hCM), get_set_ne (Ne.symm hCM)]; exact hm
        rw [flip_run hC hM hfl]
        intro H3 g
        -- back to a name of which nothing is known
        have es : (((s2.set iC .no).set iC (.own true (.list (n.map .int)))).set iC (.own true (.list (n'.map .int)))).set iC .no = s2.set iC .no := by simp only [List.set_set]
        have rel3 := (g.rel.goNo' iC).rel
        rw [es] at rel3
        have exc3 : ∀ a, exc ((s2.set iC .no).set iC (.own true (.list (n.map .int)))) (σ1.set iC (some (.ref b))) a → a = b ∨ exc (s2.set iC .no) σ1 a := by
          rintro a ⟨i, q, d, e1, e2⟩
          by_cases hi : i = iC
          · subst hi
            rw [List.getElem?_set_self (by have := (List.getElem?_eq_some_iff.mp e2).1; simpa using this)] at e2
            cases e2
            exact .inl rfl
          · rw [get_set_ne hi] at e1 e2
            exact .inr ⟨i, q, d, e1, e2⟩
        have keep : ∀ a o, H1 a = some o → a ≠ b → ¬ exc (s2.set iC .no) σ1 a → H3 a = some o := fun a o e na nx => g.fr a o e fun q => by
          rcases exc3 a q with z | z
          · exact na z
          · exact nx z
        have nb3 : H3 b = some (.lst (n'.map V.int)) := by
          obtain ⟨a, f1, ⟨ds, xs, r1, r2, r3⟩, _⟩ := g.rel.own iC true (.list (n'.map .int)) (List.getElem?_set_self (by simpa using hc))
          rw [List.getElem?_set_self (by have := N1.rel.len; simp at this; omega)] at f1
          cases f1
          cases r1
          rw [r2, r3.ints (intsOf_mapI n')]
        show Nst X.K Xn A H0 s σ H iL p bs (acc'.take (j + 1) ++ acc.drop (j + 1)) (s2.set iC .no) (σ1.set iC (some (.ref b))) H3
        have hpb : p ≠ b := fun z => (List.nodup_cons.mp N.nd).1 (z ▸ List.mem_of_getElem? hb)
        refine ⟨rel3, fun a o e nx => keep a o (N1.fr a o e nx) (fun z => by rw [z, N.nw b hmem] at e; cases e) fun q => ?_, fun a q => ?_, fun a q => g.dom a (N1.dom a q), fun i d q => ?_, N.nw, N.nd, keep p _ N1.hp hpb (N1.nex R List.mem_cons_self), ⟨by rw [hbl, List.length_append, List.length_take, List.length_drop]; omega, fun i a u e1 e2 => ?_⟩, by rw [get_set_ne hLC]; exact N1.lc⟩
        · rcases N1.ex a q with z | z
          · exact nx z
          · rw [e] at z; cases z
        · obtain ⟨i, q, d, e1, e2⟩ := q
          by_cases hi : i = iC
          · subst hi
            obtain ⟨z, _⟩ := get_set_eq e1
            cases z
          · rw [get_set_ne hi] at e2
            exact N1.ex a ⟨i, q, d, e1, e2⟩
        · by_cases hi : i = iC
          · subst hi
            obtain ⟨z, _⟩ := get_set_eq q
            cases z
          · rw [get_set_ne hi]
            exact N1.pin i d q
        · rw [mix_ix hl] at e2
          by_cases hi : i = j
          · subst hi
            rw [hb] at e1
            cases e1
            rw [if_pos (Nat.lt_succ_self _), hn'] at e2
            cases e2
            exact nb3
          · have hab : a ≠ b := fun z => by
              subst z
              have h1 := (List.getElem?_eq_some_iff.mp e1)
              have h2 := (List.getElem?_eq_some_iff.mp hb)
              obtain ⟨q1, q2⟩ := h1
              obtain ⟨q3, q4⟩ := h2
              exact hi ((List.getElem_inj (List.nodup_cons.mp N.nd).2).mp (q2.trans q4.symm))
            refine keep a _ (N1.hb.2 i a u e1 ?_) hab (N1.nex R (List.mem_cons_of_mem _ (List.mem_of_getElem? e1)))
            rw [mix_ix hl]
            by_cases hlt : i < j
            · rw [if_pos hlt]
              rw [if_pos (by omega)] at e2
              exact e2
            · rw [if_neg hlt]
              rw [if_neg (by omega)] at e2
              exact e2
    · rw [List.length_map] at N1
      rw [List.take_of_length_le (by omega), List.drop_eq_nil_of_le (by omega), List.append_nil] at N1
      exact k σ1 H1 N1
/-- the second loop -/
theorem kuhn5 {iL iC iM : Nat} {e : E} {X : Cx} {c : Cxt} {pst : Stmt} (hLC : iL ≠ iC) (hLM : iL ≠ iM) (hCM : iC ≠ iM) (O : Okx X c) (t : Okt X T c Φ Xn Xr) (ok : Oks X)
    (ck : chkS T c (.for_ (.nm iM) (.rng1 (.int 3)) (.cons (.ifs e (.cons (.for_ (.nm iC) (.e (.var iL)) (.cons (.setIx iC (.var iM) (.bin .sub (.int 1) (.ix (.var iC) (.var iM)))) .nil)) .nil) .nil) .nil)) pst = true) {W : WX} (tk : Takes X W) {A : Addr → Prop} {H0 : Hp} {s s' s1 : Sl} {σ σ' : L2.St} {H H' : Hp}
    (R : Rel X.K Xn A H0 s σ H) {p : Addr} {bs : List Addr} {acc acc1 : List (List Int)} (N : Nst X.K Xn A H0 s σ H iL p bs acc s' σ' H') {D : Ends} (h : kuhnB Φ iC iM e (rangeD 0 3) acc s' = .ok acc1 s1)
    (k : ∀ σ2 H2, Nst X.K Xn A H0 s σ H iL p bs acc1 s1 σ2 H2 → D.nx σ2 H2) : wpS X pst D σ' H' := by
  refine for_rng O t ok ck tk N.rel (fun j σ2 H2 => ∃ acc2 s2, Nst X.K Xn A H0 s σ H iL p bs acc2 s2 σ2 H2 ∧ kuhnB Φ iC iM e ((rangeD 0 3).drop j) acc2 s2 = .ok acc1 s1) (fun H1 g => ⟨acc, s', N.step R g rfl, h⟩) (fun body cb j σ2 H2 hj hp => ?_) fun σ2 H2 hp => ?_
  · obtain ⟨acc2, s2, N2, h2⟩ := hp
    rw [rng3 hj, kuhnB] at h2
    simp only [bindD] at h2
    by_cases hk : canSet s2 iM = true
    · rw [if_pos hk] at h2
      dsimp only at h2
      have N3 := N2.step R (N2.rel.goVal (i := iM) (v := .int (j : Nat)) (.int _)) (get_set_ne hLM)
      match body, cb with
      | [], cb => simp [chkSs] at cb
      | _ :: _ :: _, cb => simp [chkSs] at cb
      | [b1], cb =>
        simp only [chkSs, Bool.and_true] at cb
        refine of_pss (pss_cons ps_w pss_nil) ?_
        cases b1 <;> try (simp only [chkS, Bool.false_eq_true] at cb; done)
        rename_i pt pa pb pos
        simp only [chkS, Bool.and_eq_true] at cb
        refine of_ps (ps_if pt_w pss_w pss_w) ?_
        refine (snd e).2 X c pt O t cb.1.1 W tk _ H0 (s2.set iM (.val (.int (j : Nat)))) _ H2 N3.rel _ ?_
        cases e1 : ev Φ e (s2.set iM (.val (.int (j : Nat)))) with
        | no => rw [e1] at h2; cases h2
        | ex cc args s3 => rw [e1] at h2; cases h2
        | ok v s3 =>
          rw [e1] at h2
          cases v with
          | nw d => cases h2
          | br i => cases h2
          | dt d =>
            cases d <;> try (cases h2; done)
            rename_i q
            intro H3 g
            have N4 := N3.step R g rfl
            cases q with
            | false =>
              dsimp only at h2
              rw [if_neg Bool.false_ne_true]
              match pb, cb.2 with
              | _ :: _, cb => simp [chkSs] at cb
              | [], _ => exact of_pss pss_nil ⟨acc2, s3, N4, h2⟩
            | true =>
              dsimp only at h2
              rw [if_pos rfl]
              split at h2
              · rename_i m hm
                by_cases hc : iC < s3.length
                · rw [if_pos (decide_eq_true hc)] at h2
                  cases hf : flipsL m acc2 with
                  | none => rw [hf] at h2; cases h2
                  | some acc3 =>
                    rw [hf] at h2
                    dsimp only at h2
                    match pa, cb.1.2 with
                    | [], cb => simp [chkSs] at cb
                    | _ :: _ :: _, cb => simp [chkSs] at cb
                    | [b2], cb =>
                      simp only [chkSs, Bool.and_true] at cb
                      refine of_pss (pss_cons ps_w pss_nil) ?_
                      exact kuhn4 hLC hCM O t ok cb tk R N4 hm hc hf fun σ4 H4 N5 => ⟨acc3, _, N5, h2⟩
                · rw [if_neg (by simpa using hc)] at h2
                  cases h2
              · cases h2
    · rw [if_neg hk] at h2
      cases h2
  · obtain ⟨acc2, s2, N2, h2⟩ := hp
    have e3 : (rangeD 0 3).drop 3 = [] := rfl
    rw [e3, kuhnB] at h2
    cases h2
    exact k σ2 H2 N2
theorem sndss_kuhn {b : Ss} : SndSs T Φ Xn Xr n (.kuhn b) := by
  intro X c psts O t ok ck W tk A H0 s σ H R D h
  rw [runs] at h
  unfold kuhnR at h
  split at h
  · rename_i iL iC iK iM e t' hk
    obtain ⟨rfl, n1, n2, n3, n4, n5⟩ := of_kuhn hk
    simp only [chkSs, Bool.and_eq_true, Bool.not_eq_true'] at ck
    obtain ⟨hh, ck⟩ := ck
    unfold kuhnGo at h
    split at h
    · rename_i ns hns
      by_cases hL : canSet s iL = true
      · rw [if_pos hL] at h
        split at h
        · rename_i acc1 s1 hA
          split at h
          · rename_i acc2 s2 hB
            match psts, ck with
            | [], ck => simp [kuhnS, chkSs] at ck
            | [_], ck => simp [kuhnS, chkSs] at ck
            | [_, _], ck => simp [kuhnS, chkSs] at ck
            | [_, _, _], ck => simp [kuhnS, chkSs] at ck
            | _ :: _ :: _ :: _ :: _ :: _, ck => simp [kuhnS, chkSs] at ck
            | [st1, st2, st3, st4], ck =>
              rw [kuhnS, chkSs, chkSs, chkSs, chkSs, chkSs] at ck
              simp only [Bool.and_eq_true, and_true] at ck
              obtain ⟨c1, c2, c3, c4⟩ := ck
              refine of_pss (pss_cons ps_w pss_w) ?_
              refine kuhn1 O t c1 tk R hns hL fun p b H1 N1 => ?_
              refine of_pss (pss_cons ps_w pss_w) ?_
              refine kuhn3 n2 O t ok c2 tk R N1 hA fun bs σ2 H2 N2 => ?_
              refine of_pss (pss_cons ps_w pss_w) ?_
              refine kuhn5 n1 n3 n5 O t ok c3 tk R N2 hB fun σ3 H3 N3 => ?_
              refine of_pss (pss_cons ps_w pss_nil) ?_
              cases st4 <;> try (simp only [chkS, Bool.false_eq_true] at c4; done)
              rename_i v pos
              cases v with
              | none => simp [chkS] at c4
              | some v =>
                simp only [chkS] at c4
                cases v <;> try (simp only [chkE, Bool.false_eq_true] at c4; done)
                rename_i x px
                simp only [chkE, Bool.and_eq_true, decide_eq_true_eq] at c4
                obtain ⟨v1, v2, v3⟩ := O.vis c4.2
                have pv : PE X (.Name x px) (tVar iL) := pe_var (i := iL) (by rw [O.N]; exact c4.1) v1 v2 v3
                refine of_ps (ps_ret pv) ⟨_, N3.lc, ?_⟩
                obtain ⟨g, r⟩ := N3.unap R
                exact h (.ref p) σ3 H3 g r
          · exact h.elim
        · exact h.elim
      · rw [if_neg hL] at h
        exact h.elim
    · exact h.elim
  · exact h.elim
end
end Mi

/-! Mi14: every statement, every def. -/
namespace Mi
open PySem PySem.Spec PyProof.Rows L2
mutual
theorem sndSt {T : Tx} {Φ : Env} {Xr : XrT} {n : Nat} : ∀ (st : S) (Xn : XnT), SndS T Φ Xn Xr n st
  | .asg t e, _ => snd_asg
  | .par i j a b, _ => snd_par
  | .setIx i ix e, _ => snd_setIx
  | .aug i op e, _ => snd_aug
  | .expr e, _ => snd_expr
  | .ret e, _ => snd_ret
  | .retN, _ => snd_retN
  | .pass, _ => snd_pass
  | .stuck, _ => snd_stuck
  | .brk, _ => snd_brk
  | .cnt, _ => snd_cnt
  | .ifs t a b, Xn => snd_ifs (sndSts a Xn) (sndSts b Xn)
  | .whl t b, Xn => snd_whl (sndSts b Xn)
  | .for_ t it b, Xn => snd_for (sndSts b Xn)
  | .rais c es, _ => fun X c pst O t ok ck => by cases pst <;> simp [chkS] at ck
  | .raisT k, _ => snd_raisT
  | .try_ b hs, Xn => snd_try (sndSts b Xn) (sndHs hs)
theorem sndSts {T : Tx} {Φ : Env} {Xr : XrT} {n : Nat} : ∀ (ss : Ss) (Xn : XnT), SndSs T Φ Xn Xr n ss
  | .nil, _ => sndss_nil
  | .cons st ss, Xn => sndss_cons (sndSt st Xn) (sndSts ss Xn)
  | .kuhn b, _ => sndss_kuhn
theorem sndHs {T : Tx} {Φ : Env} {Xr : XrT} {n : Nat} : ∀ hs : Hs, AllH (fun sb => ∀ Xm : XnT, SndSs T Φ Xm Xr n sb) hs
  | .nil => trivial
  | .cons _ _ b hs => ⟨fun Xm => sndSts b Xm, sndHs hs⟩
end
/-! ### a def's entry -/
section
variable {K : PySem.W.Frag} {A : Addr → Prop} {H H' : Hp}
theorem start_at : ∀ {m : List Bool} {vs : List V} {ds : List D}, argsOk K A H m vs ds → vs.length = ds.length ∧ (start m ds).length = ds.length ∧ ∀ (i : Nat) (x : Slot), (start m ds)[i]? = some x →
      (∃ d v, x = .val d ∧ vs[i]? = some v ∧ Rp A K H v d) ∨ ∃ d a, x = .own true d ∧ vs[i]? = some (.ref a) ∧ A a ∧ OwnOk A K H a d ∧ V.ref a ∈ mskV m vs
  | m, [], [], h => ⟨rfl, rfl, fun i x e => by simp [start] at e⟩
  | true :: m, v :: vs, d :: ds, h => by
    simp only [argsOk] at h
    obtain ⟨⟨a, rfl, hA, ow⟩, h⟩ := h
    obtain ⟨l1, l2, g⟩ := start_at h
    refine ⟨by simp [l1], by simp [start, l2], fun i x e => ?_⟩
    cases i with
    | zero =>
      simp [start] at e
      subst e
      exact .inr ⟨d, a, rfl, rfl, hA, ow, List.mem_cons_self⟩
    | succ i =>
      simp [start] at e
      rcases g i x e with q | ⟨d', a', q1, q2, q3, q4, q5⟩
      · exact .inl q
      · exact .inr ⟨d', a', q1, q2, q3, q4, List.mem_cons_of_mem _ q5⟩
  | false :: m, v :: vs, d :: ds, h => by
    simp only [argsOk] at h
    obtain ⟨h1, h⟩ := h
    obtain ⟨l1, l2, g⟩ := start_at h
    refine ⟨by simp [l1], by simp [start, l2], fun i x e => ?_⟩
    cases i with
    | zero =>
      simp [start] at e
      subst e
      exact .inl ⟨d, v, rfl, rfl, h1⟩
    | succ i =>
      simp [start] at e
      rcases g i x e with q | ⟨d', a', q1, q2, q3, q4, q5⟩
      · exact .inl q
      · exact .inr ⟨d', a', q1, q2, q3, q4, q5⟩
  | [], v :: vs, d :: ds, h => by
    simp only [argsOk] at h
    obtain ⟨h1, h⟩ := h
    obtain ⟨l1, l2, g⟩ := start_at h
    refine ⟨by simp [l1], by simp [start, l2], fun i x e => ?_⟩
    cases i with
    | zero =>
      simp [start] at e
      subst e
      exact .inl ⟨d, v, rfl, rfl, h1⟩
    | succ i =>
      simp [start] at e
      rcases g i x e with q | ⟨d', a', q1, q2, q3, q4, q5⟩
      · exact .inl q
      · cases vs <;> simp [mskV] at q5
  | [], [], _ :: _, h => by simp [argsOk] at h
  | true :: m, [], _ :: _, h => by simp [argsOk] at h
  | false :: m, [], _ :: _, h => by simp [argsOk] at h
  | [], _ :: _, [], h => by simp [argsOk] at h
  | true :: m, _ :: _, [], h => by simp [argsOk] at h
  | false :: m, _ :: _, [], h => by simp [argsOk] at h
theorem start_inj : ∀ {m : List Bool} {vs : List V} {ds : List D}, argsOk K A H m vs ds → (mskV m vs).Nodup → ∀ (i j : Nat) (d e : D) (a : Addr), (start m ds)[i]? = some (.own true d) → (start m ds)[j]? = some (.own true e) → vs[i]? = some (.ref a) → vs[j]? = some (.ref a) → i = j
  | m, [], [], h, nd, i, j, d, e, a, h1, h2, h3, h4 => by simp at h3
  | true :: m, v :: vs, d0 :: ds, h, nd, i, j, d, e, a, h1, h2, h3, h4 => by
    simp only [argsOk] at h
    simp only [mskV, List.nodup_cons] at nd
    have g := (start_at h.2).2.2
    cases i with
    | zero =>
      cases j with
      | zero => rfl
      | succ j =>
        simp [start] at h2 h3 h4
        rcases g j _ h2 with ⟨_, _, q, _⟩ | ⟨d', a', q1, q2, q3, q4, q5⟩
        · cases q
        · rw [h4] at q2
          cases q2
          rw [h3] at nd
          exact absurd q5 nd.1
    | succ i =>
      cases j with
      | zero =>
        simp [start] at h1 h3 h4
        rcases g i _ h1 with ⟨_, _, q, _⟩ | ⟨d', a', q1, q2, q3, q4, q5⟩
        · cases q
        · rw [h3] at q2
          cases q2
          rw [h4] at nd
          exact absurd q5 nd.1
      | succ j =>
        simp [start] at h1 h2 h3 h4
        exact congrArg (· + 1) (start_inj h.2 nd.2 i j d e a h1 h2 h3 h4)
  | false :: m, v :: vs, d0 :: ds, h, nd, i, j, d, e, a, h1, h2, h3, h4 => by
    simp only [argsOk] at h
    simp only [mskV] at nd
    cases i with
    | zero => simp [start] at h1
    | succ i =>
      cases j with
      | zero => simp [start] at h2
      | succ j =>
        simp [start] at h1 h2 h3 h4
        exact congrArg (· + 1) (start_inj h.2 nd i j d e a h1 h2 h3 h4)
  | [], v :: vs, d0 :: ds, h, nd, i, j, d, e, a, h1, h2, h3, h4 => by
    simp only [argsOk] at h
    cases i with
    | zero => simp [start] at h1
    | succ i =>
      cases j with
      | zero => simp [start] at h2
      | succ j =>
        simp [start] at h1 h2 h3 h4
        exact congrArg (· + 1) (start_inj h.2 (by cases vs <;> simp [mskV]) i j d e a h1 h2 h3 h4)
  | [], [], _ :: _, h, _, _, _, _, _, _, _, _, _, _ => by simp [argsOk] at h
  | true :: m, [], _ :: _, h, _, _, _, _, _, _, _, _, _, _ => by simp [argsOk] at h
  | false :: m, [], _ :: _, h, _, _, _, _, _, _, _, _, _, _ => by simp [argsOk] at h
  | [], _ :: _, [], h, _, _, _, _, _, _, _, _, _, _ => by simp [argsOk] at h
  | true :: m, _ :: _, [], h, _, _, _, _, _, _, _, _, _, _ => by simp [argsOk] at h
  | false :: m, _ :: _, [], h, _, _, _, _, _, _, _, _, _, _ => by simp [argsOk] at h
theorem start_rel {Xn : XnT} {m : List Bool} {vs : List V} {ds : List D} {N : List Str} {ns : Nat} (h : argsOk K A H m vs ds) (nd : (mskV m vs).Nodup) (hA : ∀ a, A a → H a ≠ none) (hl : vs.length ≤ N.length) (hn : ns = N.length) :
    Rel K Xn A H (start m ds ++ List.replicate (ns - ds.length) .no) (L2.start N vs) H ∧ ∀ b, exc (start m ds ++ List.replicate (ns - ds.length) .no) (L2.start N vs) b → A b ∧ V.ref b ∈ mskV m vs := by
  obtain ⟨l1, l2, g⟩ := start_at h
  subst hn
  have at1 : ∀ (i : Nat) (x : Slot), (start m ds ++ List.replicate (N.length - ds.length) Slot.no)[i]? = some x → x ≠ .no → (start m ds)[i]? = some x ∧ i < vs.length := fun i x e hx => by
    by_cases hi : i < (start m ds).length
    · rw [List.getElem?_append_left hi] at e
      exact ⟨e, by omega⟩
    · rw [List.getElem?_append_right (by omega)] at e
      have := List.mem_of_getElem? e
      exact absurd (List.eq_of_mem_replicate this) hx
  have at2 : ∀ (i : Nat) (v : V), vs[i]? = some v → (L2.start N vs)[i]? = some (some v) := fun i v e => by
    have hi : i < vs.length := (List.getElem?_eq_some_iff.mp e).1
    unfold L2.start
    rw [List.getElem?_append_left (by simpa using hi), List.getElem?_map, e]
    rfl
  have at3 : ∀ (i : Nat) (v : V), i < vs.length → (L2.start N vs)[i]? = some (some v) → vs[i]? = some v := fun i v hi e => by
    unfold L2.start at e
    rw [List.getElem?_append_left (by simpa using hi), List.getElem?_map] at e
    cases q : vs[i]? with
    | none => rw [q] at e; cases e
    | some w => rw [q] at e; cases e; rfl
  have ex : ∀ b, exc (start m ds ++ List.replicate (N.length - ds.length) .no) (L2.start N vs) b → A b ∧ V.ref b ∈ mskV m vs := by
    rintro b ⟨i, p, d, h1, h2⟩
    obtain ⟨h1, hi⟩ := at1 i _ h1 (by intro z; cases z)
    rcases g i _ h1 with ⟨_, _, q, _⟩ | ⟨d', a', q1, q2, q3, q4, q5⟩
    · cases q
    · have := at3 i _ hi h2
      rw [q2] at this
      cases this
      exact ⟨q3, q5⟩
  have zz : ∀ b, Zs A (start m ds ++ List.replicate (N.length - ds.length) .no) (L2.start N vs) b → A b := fun b q => q.elim id fun q => (ex b q).1
  refine ⟨⟨?_, hA, fun _ q => q, fun i d e => ?_, fun i p d e => ?_, fun i j p q d e a h1 h2 h3 h4 => ?_, fun i c args e => ?_⟩, ex⟩
  · simp [L2.start, l2, l1]
  · obtain ⟨e, hi⟩ := at1 i _ e (by intro z; cases z)
    rcases g i _ e with ⟨_, v, q, q2, q3⟩ | ⟨d', a', q1, _⟩
    · cases q
      exact ⟨v, at2 i v q2, q3.weak zz⟩
    · cases q1
  · obtain ⟨e, hi⟩ := at1 i _ e (by intro z; cases z)
    rcases g i _ e with ⟨_, _, q, _⟩ | ⟨d', a', q1, q2, q3, ⟨es, xs, r1, r2, r3⟩, q5⟩
    · cases q
    · cases q1
      exact ⟨a', at2 i _ q2, ⟨es, xs, r1, r2, r3.weak zz⟩, fun _ => q3, fun z => by cases z⟩
  · obtain ⟨e1, hi⟩ := at1 i _ h1 (by intro z; cases z)
    obtain ⟨e2, hj⟩ := at1 j _ h2 (by intro z; cases z)
    have k1 := at3 i _ hi h3
    have k2 := at3 j _ hj h4
    rcases g i _ e1 with ⟨_, _, q, _⟩ | ⟨_, _, q1, _⟩
    · cases q
    · rcases g j _ e2 with ⟨_, _, q, _⟩ | ⟨_, _, q2, _⟩
      · cases q
      · cases q1
        cases q2
        exact start_inj h nd i j _ _ a e1 e2 k1 k2
  · obtain ⟨e, hi⟩ := at1 i _ e (by intro z; cases z)
    rcases g i _ e with ⟨_, _, q, _⟩ | ⟨_, _, q1, _⟩
    · cases q
    · cases q1
/-- what lies at the changed parameters at the end -/
theorem outs_ok {A' : Addr → Prop} : ∀ {m : List Bool} {vs : List V} {s' : Sl} {outs : List D} {ds : List D}, vs.length = ds.length → outsOf m s' = some outs → m.length ≤ vs.length →
    (∀ (i : Nat) (d : D), s'[i]? = some (Slot.own true d) → ∀ v, vs[i]? = some v → ∃ a, v = .ref a ∧ OwnOk A' K H' a d) → outsOk K A' H' (mskV m vs) outs
  | [], vs, s', outs, ds, hl, e, hm, g => by
    simp [outsOf] at e
    subst e
    cases vs <;> simp [mskV, outsOk]
  | true :: m, [], s', outs, ds, hl, e, hm, g => by simp at hm
  | true :: m, v :: vs, [], outs, ds, hl, e, hm, g => by simp [outsOf] at e
  | true :: m, v :: vs, x :: s', outs, d0 :: ds, hl, e, hm, g => by
    unfold outsOf at e
    split at e
    · rename_i h; cases h
    · rename_i m' d s'' h1 h2
      cases h1
      cases h2
      split at e
      · rename_i ds' e1
        cases e
        simp only [mskV, outsOk]
        exact ⟨g 0 d rfl v rfl, outs_ok (ds := ds) (by simpa using hl) e1 (by simpa using hm) fun i d' h v' hv => g (i + 1) d' (by simpa using h) v' (by simpa using hv)⟩
      · cases e
    · rename_i h _; cases h
    · cases e
  | true :: m, v :: vs, x :: s', outs, [], hl, e, hm, g => by simp at hl
  | false :: m, [], s', outs, ds, hl, e, hm, g => by simp at hm
  | false :: m, v :: vs, [], outs, ds, hl, e, hm, g => by simp [outsOf] at e
  | false :: m, v :: vs, x :: s', outs, d0 :: ds, hl, e, hm, g => by
    simp only [outsOf] at e
    simp only [mskV]
    exact outs_ok (ds := ds) (by simpa using hl) e (by simpa using hm) fun i d' h v' hv => g (i + 1) d' (by simpa using h) v' (by simpa using hv)
  | false :: m, v :: vs, x :: s', outs, [], hl, e, hm, g => by simp at hl
end

/-! ### the defs of a law -/
structure Def where
  d : He.DefD
  ps : List Str
  N : List Str
  F : Fn
  dvs : List D
def Def.i (D : Def) : FnI := ⟨D.d.name, D.ps, D.dvs⟩
def Def.cxt (D : Def) (i : Nat) : Cxt := { N := D.N, nm := D.d.scope.names, hot := false, fnT := true, fnL := [], n := i }
def okD (T : Tx) (i : Nat) (D : Def) : Bool :=
  (D.d.scope.kind == .function) && !D.d.scope.isCoroutine && !D.d.scope.isGenerator && decide D.N.Nodup && decide (D.N.take D.ps.length = D.ps) &&
  (D.ps.all fun x => D.d.scope.names.lookup x == some NameKind.local || D.d.scope.names.lookup x == some NameKind.cell) && (D.d.scope.names.all fun y => !(y.2 == NameKind.free)) &&
  decide (D.F.ns = D.N.length) && decide (D.ps.length ≤ D.N.length) && decide (D.F.mask.length ≤ D.ps.length) && ((D.F.mask.drop (D.ps.length - D.dvs.length)).all fun b => !b) && chkSs T (D.cxt i) D.F.body D.d.body
/-- what the program's text must say of a def -/
structure DefOk (K : PySem.W.Frag) (mg : Str → Option Value) (D : Def) (a : Addr) (fd : FuncData) : Prop where
  g : mg D.d.name = some (.ref a)
  f : FunD K D.d.name D.d.qual D.d.params D.d.body D.d.scope (D.d.dvs K) (D.d.kws K) a fd
  b : ∀ m, m ≤ D.dvs.length → ∃ ds : List Value, Vals ((D.dvs.drop (D.dvs.length - m)).map dV) ds ∧ Binds K fd D.ps ds
theorem fns_ok {P : Program} {w : World} {K : PySem.W.Frag} {mg : Str → Option Value} {base : Heap} {T : Tx} {Φ : Env} {Xn : XnT} {Xr : XrT} (tb : List Def) (hT : T.fns = tb.map Def.i) (hxn : XnOk Xn) (hblt : ∀ x ∈ blts, mg x = none)
    (hglb : ∀ (k : Nat) (x : Str), T.glb[k]? = some x → ∃ v u, mg x = some u ∧ RelV v u ∧ ∀ H, Rp (fun _ => True) K H v (Φ.glb k))
    (hxr : ∀ (A A' : Addr → Prop) n args cls dx H H', Xr A n args cls dx H → (∀ b o, H b = some o → ¬ A b → H' b = some o) → (∀ b, A' b → A b ∨ H b = none) → Xr A' n args cls dx H')
    (hcl : Clss K mg T Φ.under) (hxi : ∀ (A : Addr → Prop) (H : Hp) (cc : Nat) (x : Str) (D : Addr), T.cls[cc]? = some x → mg x = some (.ref D) → Xr A cc [] (.ref D) none H)
    (hxo : ∀ (A : Addr → Prop) (cc : Nat) (args : List Mi.D) (cls : Value) (dx : Option Addr) (H : Hp), Xr A cc args cls dx H → args = [] ∧ dx = none ∧ ∃ (x : Str) (D : Addr), T.cls[cc]? = some x ∧ mg x = some (.ref D) ∧ cls = .ref D)
    (hx0 : ∀ cc args v H, ¬ Xn cc args v H)
    (hD : ∀ (i : Nat) (D : Def), tb[i]? = some D → ∃ a fd, DefOk K mg D a fd) (hc : ∀ (i : Nat) (D : Def), tb[i]? = some D → okD T i D = true)
    (hφ : ∀ (i : Nat) (D : Def), tb[i]? = some D → ∀ ds r, Φ.fn i ds = some r → ∃ n, runFn Φ n D.F ds = some r) (hm : ∀ (i : Nat) (D : Def), tb[i]? = some D → Φ.mask i = D.F.mask) :
    ∀ (k i : Nat), i < k → ∀ (D : Def), tb[i]? = some D → ∀ (a : Addr) (fd : FuncData), DefOk K mg D a fd → FnOk P w K mg base (L2.CX P w) (i + 1) a fd D.ps (spOf K Xr D.ps.length D.F.mask (Φ.fn i)) := by
  intro k
  induction k with
  | zero => intro i hi; omega
  | succ k ih =>
    intro i hi D hDi a fd F
    have ck := hc i D hDi
    simp only [okD, Bool.and_eq_true, decide_eq_true_eq, Bool.not_eq_true', List.all_eq_true, Bool.or_eq_true, beq_iff_eq] at ck
    obtain ⟨⟨⟨⟨⟨⟨⟨⟨⟨⟨⟨c1, c2⟩, c3⟩, c4⟩, c5⟩, c6⟩, c7⟩, c8⟩, c9⟩, c10⟩, c11⟩, c12⟩ := ck
    have S : FnScope D.N D.ps D.d.scope := ⟨c1, c2, c3, c4, c5, c6, fun y hy z => by
      have := c7 y hy
      rw [z] at this
      exact absurd this (by decide)⟩
    refine F.f.ok S (fun vs H Q E h => h.1) fun cdv A outer s H vs Q E hr h => ⟨_, pss_w, ?_⟩
    obtain ⟨hlen, A0, ds, hA, nd, args, post⟩ := h
    cases hφd : Φ.fn i ds with
    | none => rw [hφd] at post; exact post.elim
    | some r =>
      rw [hφd] at post
      obtain ⟨n, hn⟩ := hφ i D hDi ds r hφd
      have O : Okx (cxOf (L2.CX P w) P w K mg base D.N D.d.qual D.d.scope a cdv A outer s H E) (D.cxt i) := ⟨rfl, c4, rfl, c1, fun _ _ => rfl, fun _ => rfl, by
        have := hr.un
        show (A.deeper _).units + 65 < cLine
        omega⟩
      have Ot : Okt (cxOf (L2.CX P w) P w K mg base D.N D.d.qual D.d.scope a cdv A outer s H E) T (D.cxt i) Φ Xn Xr := ⟨hxn, hblt, hglb, fun _ f fi hf hfi => by
        have hf : f < i := hf
        rw [hT, List.getElem?_map] at hfi
        obtain ⟨D', e1, rfl⟩ := Option.map_eq_some_iff.mp hfi
        obtain ⟨a', fd', F'⟩ := hD f D' e1
        have c' := hc f D' e1
        simp only [okD, Bool.and_eq_true, List.all_eq_true, Bool.not_eq_true'] at c'
        refine ⟨a', fd', f + 1, F'.g, F'.f.kp, hr.mono (by omega), ?_, fun b hb => c'.1.2 b (by rw [hm f D' e1] at hb; exact hb), F'.b⟩
        rw [hm f D' e1]
        exact ih f (by omega) D' e1 a' fd' F', hxr, ⟨hcl, hxi, hxo, fun _ => hx0, fun z => absurd z Bool.false_ne_true⟩⟩
      have Os : Oks (cxOf (L2.CX P w) P w K mg base D.N D.d.qual D.d.scope a cdv A outer s H E) := ⟨fun _ => passes_of rfl, rfl, rfl⟩
      have tk : Takes (cxOf (L2.CX P w) P w K mg base D.N D.d.qual D.d.scope a cdv A outer s H E) (fun cls d _ H => E cls d H) := takes_of rfl rfl rfl rfl
      have hv : vs.length ≤ D.N.length := by rw [hlen]; exact c9
      obtain ⟨l1, l2, at0⟩ := start_at args
      obtain ⟨R, hex⟩ := start_rel (Xn := Xn) (N := D.N) (ns := D.F.ns) args nd hA hv c8
      refine sndSts (n := n) D.F.body Xn _ (D.cxt i) D.d.body O Ot Os c12 _ tk A0 H _ _ H R _ ?_
      have cf : ∀ {s' σ' H'}, Go K Xn A0 H (start D.F.mask ds ++ List.replicate (D.F.ns - ds.length) .no) (L2.start D.N vs) H s' σ' H' → callFr (mskV D.F.mask vs) H H' := fun g =>
        ⟨fun b o e nm => g.fr b o e fun q => nm (hex b q).2, g.dom⟩
      have pin : ∀ {s' σ' H'}, Go K Xn A0 H (start D.F.mask ds ++ List.replicate (D.F.ns - ds.length) .no) (L2.start D.N vs) H s' σ' H' → ∀ (j : Nat) (d : Mi.D), s'[j]? = some (Slot.own true d) → ∀ v, vs[j]? = some v → σ'[j]? = some (some v) := fun g j d h v hv' => by
        rw [(g.pin j d h).1]
        have hj : j < vs.length := (List.getElem?_eq_some_iff.mp hv').1
        unfold L2.start
        rw [List.getElem?_append_left (by simpa using hj), List.getElem?_map, hv']
        rfl
      have hml : D.F.mask.length ≤ vs.length := by rw [hlen]; exact c10
      have outs1 : ∀ {s' σ' H' outs}, Go K Xn A0 H (start D.F.mask ds ++ List.replicate (D.F.ns - ds.length) .no) (L2.start D.N vs) H s' σ' H' → outsOf D.F.mask s' = some outs → outsOk K A0 H' (mskV D.F.mask vs) outs := fun g e =>
        outs_ok (ds := ds) l1 e hml fun j d h v hv' => by
          obtain ⟨b, e1, ⟨es, xs, r1, r2, r3⟩, _⟩ := g.rel.own j true d h
          have := pin g j d h v hv'
          rw [this] at e1
          cases e1
          exact ⟨b, rfl, es, xs, r1, r2, r3.weak fun b q => .inl q⟩
      have wk : ∀ {s' : Sl} {σ' : L2.St}, ∀ b, A0 b → Zs A0 s' σ' b := fun b q => .inl q
      unfold runFn at hn
      unfold SOut
      split at hn
      · rename_i s' hs
        obtain ⟨outs, e1, rfl⟩ := Option.map_eq_some_iff.mp hn
        have hs : runs Φ n D.F.body (start D.F.mask ds ++ List.replicate (D.F.ns - ds.length) .no) = _ := hs
        rw [hs]
        exact fun σ' H' g => post _ H' (cf g) ⟨.non, outs1 g e1⟩
      · rename_i nw d s' hs
        obtain ⟨outs, e1, rfl⟩ := Option.map_eq_some_iff.mp hn
        rw [hs]
        intro x σ' H' g r
        refine post x H' (cf g) ?_
        cases nw with
        | false => exact ⟨Rp.weak wk r, outs1 g e1⟩
        | true =>
          obtain ⟨p, r1, r2, r3, r4, r5⟩ := r
          refine ⟨p, r1, r2, r3, r4, outs_ok (ds := ds) l1 e1 hml fun j d' h v hv' => ?_⟩
          obtain ⟨b, f1, f2⟩ := r5 j d' h
          have := pin g j d' h v hv'
          rw [this] at f1
          cases f1
          exact ⟨b, rfl, f2⟩
      · cases hn
      · rename_i cc args' s' hs
        obtain ⟨outs, e1, rfl⟩ := Option.map_eq_some_iff.mp hn
        rw [hs]
        intro cls dx σ' H' g r
        exact post cls dx H' (cf g) (outs1 g e1) (hxr _ _ _ _ _ _ _ _ r (fun _ _ e _ => e) fun b q => .inl (wk b q))
      · cases hn
end Mi

/-! Mi15: from the head's facts to the law. -/
namespace Mi
open PySem PySem.Spec PyProof.Rows L2
def BindOk (D : Def) : Prop := ∀ (K : PySem.W.Frag) (a : Addr) (fd : FuncData), FunD K D.d.name D.d.qual D.d.params D.d.body D.d.scope (D.d.dvs K) (D.d.kws K) a fd → ∀ m, m ≤ D.dvs.length → ∃ ds : List Value, Vals ((D.dvs.drop (D.dvs.length - m)).map dV) ds ∧ Binds K fd D.ps ds
theorem bind0 {D : Def} (h0 : D.d.dfl = []) (h1 : D.dvs = [])
    (h : ∀ (kV doc pm : Value) (an : Option Addr) (cdv ct : Value) (us : List Value), us.length = D.ps.length → bindArgs (PySem.W.fnOf D.d.name D.d.qual D.d.params D.d.body D.d.scope .none kV doc pm an cdv ct) ⟨us, []⟩ = pure (D.ps.zip us)) : BindOk D := by
  intro K a fd F m hm
  rw [h1] at hm ⊢
  have e : D.d.dvs K = [] := by unfold He.DefD.dvs; rw [h0]; rfl
  rw [e] at F
  exact ⟨[], by simp; exact .nil, F.bindsN h⟩
theorem vals_nil {ds : List Value} (h : Vals [] ds) : ds = [] := by cases h; rfl
/-- a def with defaults, all of whose parameters are always given -/
theorem bindD0 {D : Def} {j : Nat} (h0 : D.d.dfl.length = j) (hj : j ≠ 0) (h1 : D.dvs = [])
    (h : ∀ (T : Addr) (kV doc pm : Value) (an : Option Addr) (cdv ct : Value) (us its : List Value), us.length = D.ps.length → its.length = j →
      ∃ k, bindArgs (PySem.W.fnOf D.d.name D.d.qual D.d.params D.d.body D.d.scope (.ref T) kV doc pm an cdv ct) ⟨us, []⟩ = seqItems? (.ref T) >>= k ∧ k (some its.toArray) = pure (D.ps.zip (us ++ its.drop j))) : BindOk D := by
  intro K a fd F m hm
  have hl : (D.d.dvs K).length = j := by unfold He.DefD.dvs; rw [List.length_map, h0]
  rw [h1] at hm ⊢
  obtain ⟨ds, v, b⟩ := F.binds1 (ps := D.ps) D.ps.length j (by intro z; rw [z] at hl; exact hj hl.symm) (by rw [hl]; omega) (by
    rw [hl]
    exact h)
  rw [List.drop_eq_nil_of_le (by omega)] at v
  obtain rfl := vals_nil v
  exact ⟨[], by simp; exact .nil, b⟩
theorem bindD1 {D : Def} {i : Int} (h0 : D.d.dfl = [.int i]) (h1 : D.dvs = [.int i]) (hps : 0 < D.ps.length)
    (ha : ∀ (T : Addr) (kV doc pm : Value) (an : Option Addr) (cdv ct : Value) (us its : List Value), us.length = D.ps.length → its.length = 1 →
      ∃ k, bindArgs (PySem.W.fnOf D.d.name D.d.qual D.d.params D.d.body D.d.scope (.ref T) kV doc pm an cdv ct) ⟨us, []⟩ = seqItems? (.ref T) >>= k ∧ k (some its.toArray) = pure (D.ps.zip (us ++ its.drop 1)))
    (hb : ∀ (T : Addr) (kV doc pm : Value) (an : Option Addr) (cdv ct : Value) (us its : List Value), us.length + 1 = D.ps.length → its.length = 1 →
      ∃ k, bindArgs (PySem.W.fnOf D.d.name D.d.qual D.d.params D.d.body D.d.scope (.ref T) kV doc pm an cdv ct) ⟨us, []⟩ = seqItems? (.ref T) >>= k ∧ k (some its.toArray) = pure (D.ps.zip (us ++ its.drop 0))) : BindOk D := by
  intro K a fd F m hm
  have e : D.d.dvs K = [.int i] := by unfold He.DefD.dvs; rw [h0]; rfl
  rw [e] at F
  rw [h1] at hm ⊢
  have hm : m ≤ 1 := hm
  rcases (by omega : m = 0 ∨ m = 1) with rfl | rfl
  · obtain ⟨ds, v, b⟩ := F.binds1 (ps := D.ps) D.ps.length 1 (by simp) (by simp) (by simpa using ha)
    exact ⟨ds, v, b⟩
  · obtain ⟨ds, v, b⟩ := F.binds1 (ps := D.ps) (D.ps.length - 1) 0 (by simp) (by simp; omega) (fun T kV doc pm an cdv ct us its h1 h2 => hb T kV doc pm an cdv ct us its (by omega) h2)
    exact ⟨ds, v, b⟩
theorem bindA {D : Def} {x : Str} (h0 : D.d.dfl = []) (hp : D.ps = [x])
    (h : ∀ (kV doc pm : Value) (an : Option Addr) (cdv ct : Value) (us : List Value), us.length = D.ps.length → bindArgs (PySem.W.fnOf D.d.name D.d.qual D.d.params D.d.body D.d.scope .none kV doc pm an cdv ct) ⟨us, []⟩ = pure (D.ps.zip us))
    {K : PySem.W.Frag} {a : Addr} {fd : FuncData} (F : FunD K D.d.name D.d.qual D.d.params D.d.body D.d.scope (D.d.dvs K) (D.d.kws K) a fd) (s : Shared) (u : Value) : BindsTo s fd ⟨[u], []⟩ [(x, u)] := by
  have e : D.d.dvs K = [] := by unfold He.DefD.dvs; rw [h0]; rfl
  rw [e] at F
  have := F.bindsA (ps := D.ps) h s [u] (by rw [hp]; rfl)
  rw [hp] at this
  exact this
theorem cx_none {P : Program} {w : World} (H : Hp) (s : Shared) (e : Value) (s' : Shared) (h : L2.CX P w [] H s (fun _ _ _ => False) e s') : False := by
  obtain ⟨_, _, _, _, _, _, _, _, _, _, _, _, h⟩ := h
  exact h
theorem rp_ints {K : PySem.W.Frag} {H : Hp} : ∀ ns : List Int, RpAll (fun _ => False) K H (ns.map V.int) (ns.map PyData.int)
  | [] => .nil
  | n :: ns => .cons (.int n) (rp_ints ns)
def XrOf (T : Tx) (mg : Str → Option Value) : XrT := fun _ cc args cls dx _ => args = [] ∧ dx = none ∧ ∃ (x : Str) (D : Addr), T.cls[cc]? = some x ∧ mg x = some (.ref D) ∧ cls = .ref D
theorem clss_nil {K : PySem.W.Frag} {mg : Str → Option Value} {T : Tx} {u : Nat → Nat → Bool} (h : T.cls = []) : Clss K mg T u := ⟨fun k x e => (by rw [h] at e; cases e), fun k x e => (by rw [h] at e; cases e)⟩
theorem law_at {l : PySem.W.OpenLaw} {w : World} {K : PySem.W.Frag} {h : Heap} {mg : Str → Option Value} {fl : Addr} {x : Str} {nm : Str} {T : Tx} {Φ : Env} {n : Nat} (tb : List Def) (fa : List He.Fa) (iL : Nat) (DL : Def)
    (KX : K.In h) (G : h.Ns mainGlobals mg) (hmg : mg nm = some (.ref fl)) (c : He.SaysD fa (tb.map (·.d)) K)
    (hT : T.fns = tb.map Def.i) (hcl : Clss K mg T Φ.under) (hfb : ∀ x ∈ blts, He.Fa.free x ∈ fa)
    (hglb : ∀ (k : Nat) (x : Str), T.glb[k]? = some x → ∃ v u, mg x = some u ∧ RelV v u ∧ ∀ H, Rp (fun _ => True) K H v (Φ.glb k))
    (hat : ∀ D ∈ tb, D.d.at_ = (D.d.name, none) ∧ He.Fa.glo D.d.name ∈ fa) (hbd : ∀ D ∈ tb, BindOk D) (hc : ∀ (i : Nat) (D : Def), tb[i]? = some D → okD T i D = true)
    (hφ : ∀ (i : Nat) (D : Def), tb[i]? = some D → ∀ ds r, Φ.fn i ds = some r → ∃ n, runFn Φ n D.F ds = some r) (hm : ∀ (i : Nat) (D : Def), tb[i]? = some D → Φ.mask i = D.F.mask)
    (hL : tb[iL]? = some DL) (hnm : DL.d.name = nm) (hps : DL.ps = [x]) (hbl : ∀ {K : PySem.W.Frag} {a : Addr} {fd : FuncData}, FunD K DL.d.name DL.d.qual DL.d.params DL.d.body DL.d.scope (DL.d.dvs K) (DL.d.kws K) a fd → ∀ (s : Shared) (u : Value), BindsTo s fd ⟨[u], []⟩ [(x, u)]) (hmk : DL.F.mask = [false])
    (hlaw : ∀ ns : List Int, ns.length ≤ n → (∀ z ∈ ns, Builtin.Int.intBits z ≤ 1048576) → ∃ outs, Φ.fn iL [frzD (ns.map PyData.int)] = some (.ok false (.bool true) outs)) :
    LamX.LawAtS l w K (L2.CX l.prog w) (iL + 1) n x mg fl h := by
  have defs : ∀ (i : Nat) (D : Def), tb[i]? = some D → ∃ fd, DefOk K mg D (He.fAd K (D.d.name, none)) fd := fun i D e => by
    have hmem : D ∈ tb := List.mem_of_getElem? e
    obtain ⟨fd, q⟩ := c.defs (d := D.d) (List.mem_map_of_mem hmem)
    rw [(hat D hmem).1] at q
    exact ⟨fd, He.glo_ok KX G (c.facts (hat D hmem).2), q, hbd D hmem _ _ _ q⟩
  obtain ⟨fdL, FL⟩ := defs iL DL hL
  have e := hmg.symm.trans (hnm ▸ FL.g)
  cases e
  refine ⟨_, [], spOf K (XrOf T mg) 1 [false] (Φ.fn iL), fun p hp => by simp at hp, fun p hp => by simp at hp, fun p hp => by simp at hp, hbl FL.f, ?_, fun base KB GB _ => ?_⟩
  rotate_left
  · have := fns_ok (P := l.prog) (w := w) (base := base) (Xn := fun _ _ _ _ => False) (Xr := XrOf T mg) tb hT (fun _ _ _ _ _ h _ => h) (fun x hx => He.free_ok KX G (c.facts (hfb x hx))) hglb (fun _ _ _ _ _ _ _ _ h _ _ => h) hcl (fun A H cc x D h1 h2 => ⟨rfl, rfl, x, D, h1, h2, rfl⟩) (fun A cc args cls dx H h => h) (fun _ _ _ _ h => h) (fun i D e => ⟨_, defs i D e⟩) hc hφ hm (iL + 1) iL (Nat.lt_succ_self _) DL hL _ _ FL
    rw [hps, hmk] at this
    subst hnm
    exact this
  · intro H a ns hn hb _ hS
    refine ⟨rfl, fun _ => False, [frzD (ns.map PyData.int)], fun _ q => q.elim, by simp [mskV], ?_, ?_⟩
    · simp only [argsOk, and_true]
      rcases hS with q | ⟨o, its, m, q⟩
      · exact .frz q (fun z => z) (rp_ints ns)
      · exact .frzK ⟨o, its, m, q⟩ (rp_ints ns)
    · obtain ⟨outs, e⟩ := hlaw ns hn hb
      rw [e]
      intro x H' _ r
      exact r.1.bl_inv

/-! ### classes of exceptions: what the head must tell -/
def ecB (K : PySem.W.Frag) (D : Addr) : Bool :=
  decide (PySem.W.findIn K (.ref D) "__getattribute__" = some (some (.builtin "BaseException.__getattribute__"))) && decide (PySem.W.findIn K (.ref D) "__getattr__" = some none) &&
  decide (PySem.W.subIn K (.ref D) (.type "BaseException") = some true) && PySem.W.hasDictIn K D && decide (PySem.W.findIn K (.ref D) "__class__" = some (some (.builtin "object.__class__"))) &&
  decide (PySem.W.specialIn K (.builtin "object.__class__") "__get__" = some (some (.builtin "getset_descriptor.__get__"))) && decide (PySem.W.takesIn K (.builtin "object.__class__") = some true) && decide (PySem.W.mroIn K D (.type "object") = some true)
theorem ecB_ok {K : PySem.W.Frag} {D : Addr} (h : ecB K D = true) : ExcC K D := by
  simp only [ecB, Bool.and_eq_true, decide_eq_true_eq] at h
  obtain ⟨⟨⟨⟨⟨⟨⟨h1, h2⟩, h3⟩, h4⟩, h5⟩, h6⟩, h7⟩, h8⟩ := h
  exact ⟨h1, h2, h3, h4, h5, h6, h7, h8⟩
def isVE (x : Str) : Bool := decide (x = ("ValueError" : Str))
def cvOf (K : PySem.W.Frag) (x : Str) : Value := if isVE x then .type "ValueError" else .ref (He.ga K x)
def ownB (K : PySem.W.Frag) (x : Str) : Bool := if isVE x then (He.Fa.free x).ok K else (He.Fa.glo x).ok K && (He.Fa.exc x).ok K && ecB K (He.ga K x)
def pairB (K : PySem.W.Frag) (x y : Str) (b : Bool) : Bool := isVE y || (decide (PySem.W.exmOne K (.ref (He.ga K y)) (cvOf K x) = some b) && decide (PySem.W.kitOne K (.ref (He.ga K y)) (cvOf K x) = some b))
def clB (cls : List Str) (under : Nat → Nat → Bool) (K : PySem.W.Frag) : Bool := (cls.all fun x => ownB K x) && cls.zipIdx.all fun p => cls.zipIdx.all fun q => pairB K p.1 q.1 (under p.2 q.2)
theorem clss_of {K : PySem.W.Frag} {h : Heap} {mg : Str → Option Value} {T : Tx} {u : Nat → Nat → Bool} (KX : K.In h) (G : h.Ns mainGlobals mg) (c : clB T.cls u K = true) : Clss K mg T u := by
  simp only [clB, Bool.and_eq_true, List.all_eq_true] at c
  obtain ⟨c1, c2⟩ := c
  have own : ∀ (x : Str), x ∈ T.cls → isVE x = false → mg x = some (.ref (He.ga K x)) ∧ (He.Fa.exc x).ok K = true ∧ ecB K (He.ga K x) = true := fun x hx hv => by
    have := c1 x hx
    simp only [ownB, hv, Bool.false_eq_true, if_false, Bool.and_eq_true] at this
    exact ⟨He.glo_ok KX G this.1.1, this.1.2, this.2⟩
  have ve : ∀ (x : Str), x ∈ T.cls → isVE x = true → mg x = none ∧ x = ("ValueError" : Str) := fun x hx hv => by
    have := c1 x hx
    simp only [ownB, hv, if_true] at this
    exact ⟨He.free_ok KX G this, of_decide_eq_true hv⟩
  refine ⟨fun k x e hne => ?_, fun k x e => ⟨cvOf K x, ?_, fun cc y D e2 hm => ?_⟩⟩
  · obtain ⟨h1, h2, h3⟩ := own x (List.mem_of_getElem? e) (decide_eq_false hne)
    obtain ⟨q1, q2, q3, q4⟩ := He.exc_ok h2
    exact ⟨_, h1, q2, q1, q3, q4, ecB_ok h3⟩
  · cases hv : isVE x with
    | true =>
      obtain ⟨h1, h2⟩ := ve x (List.mem_of_getElem? e) hv
      exact .inr ⟨h1, h2, by unfold cvOf; rw [hv]; rfl⟩
    | false =>
      obtain ⟨h1, _⟩ := own x (List.mem_of_getElem? e) hv
      refine .inl ⟨?_, _, by unfold cvOf; rw [hv]; rfl⟩
      unfold cvOf
      rw [hv]
      exact h1
  · have hy : isVE y = false := by
      cases hv : isVE y with
      | false => rfl
      | true =>
        obtain ⟨h1, _⟩ := ve y (List.mem_of_getElem? e2) hv
        rw [h1] at hm
        cases hm
    obtain ⟨h1, _, h3⟩ := own y (List.mem_of_getElem? e2) hy
    rw [h1] at hm
    cases hm
    have := c2 (x, k) (by rw [List.mem_zipIdx_iff_getElem?]; exact e) (y, cc) (by rw [List.mem_zipIdx_iff_getElem?]; exact e2)
    simp only [pairB, hy, Bool.false_or, Bool.and_eq_true, decide_eq_true_eq] at this
    exact ⟨this.1, this.2, ecB_ok h3⟩
/-- the head's own look: the defs' facts, and one more test -/
def lookM (n : Nat) (fa : List He.Fa) (fn : List He.DefD) (ex : PySem.W.Frag → Bool) (g : Addr → Option Obj) : He.AlD × Bool := (He.obsDG n fa fn g, ex (He.frG g (He.asD g n)))
def hookM (n : Nat) (fa : List He.Fa) (fn : List He.DefD) (ex : PySem.W.Frag → Bool) : PySem.W.Hook where
  α := He.AlD × Bool
  obs := fun st => lookM n fa fn ex st.heap.get?
  val := fun _ => (He.valD fn, true)
  says := fun _ hp => ∃ M : PySem.W.Frag, M.In hp ∧ He.SaysD fa fn M ∧ ex M = true
  of := fun _ _ q => ⟨_, He.frG_in, congrArg Prod.fst q, congrArg Prod.snd q⟩
  keeps := fun _ _ _ ⟨M, hM, c, d⟩ k => ⟨M, PySem.W.Frag.In.keeps hM k, c, d⟩
theorem lookM_eq {n : Nat} {fa : List He.Fa} {fn : List He.DefD} {ex : PySem.W.Frag → Bool} {g : Addr → Option Obj} {st : Shared} (h : ∀ a, g a = st.heap.get? a) : lookM n fa fn ex g = (hookM n fa fn ex).obs st := by
  have q : g = st.heap.get? := funext h
  rw [q]
  rfl
end Mi

/-! MiL: loops of the interpreter, plain mathematics of the laws' own defs. -/
namespace Mi
open PySem
theorem whl_ind {tst : Sl → R Vl} {body : Sl → R Fl} (I : Nat → Sl → Prop) (Q : Sl → Prop)
    (step : ∀ m s, I m s → (∃ s1, tst s = .ok (.dt (.bool false)) s1 ∧ Q s1) ∨ ∃ s1 s2, tst s = .ok (.dt (.bool true)) s1 ∧ (body s1 = .ok .nx s2 ∨ body s1 = .ok .ct s2) ∧ ∃ m', m' < m ∧ I m' s2) :
    ∀ (n m : Nat) (s : Sl), I m s → m < n → ∃ s', whlGo tst body n s = .ok .nx s' ∧ Q s'
  | 0, m, s, _, h => absurd h (Nat.not_lt_zero m)
  | n + 1, m, s, i, h => by
    rcases step m s i with ⟨s1, e1, q⟩ | ⟨s1, s2, e1, e2, m', hm, i'⟩
    · exact ⟨s1, by rw [whlGo, e1], q⟩
    · obtain ⟨s', e, q⟩ := whl_ind I Q step n m' s2 i' (by omega)
      refine ⟨s', ?_, q⟩
      rw [whlGo, e1]
      rcases e2 with e2 | e2 <;> simp only [e2, e]
theorem for_ind {t : Tg} {body : Sl → R Fl} (I : List D → Sl → Prop)
    (step : ∀ d ds s, I (d :: ds) s → ∃ s1 s2, bindD t d s = some s1 ∧ (body s1 = .ok .nx s2 ∨ body s1 = .ok .ct s2) ∧ I ds s2) : ∀ ds s, I ds s → ∃ s', forGo t body ds s = .ok .nx s' ∧ I [] s'
  | [], s, h => ⟨s, rfl, h⟩
  | d :: ds, s, h => by
    obtain ⟨s1, s2, e1, e2, i⟩ := step d ds s h
    obtain ⟨s', e, q⟩ := for_ind I step ds s2 i
    refine ⟨s', ?_, q⟩
    rw [forGo, e1]
    rcases e2 with e2 | e2 <;> simp only [e2, e]
@[simp] theorem eqB_int (a b : Int) : eqB (.int a) (.int b) = some (decide (a = b)) := by
  have e : (PyData.int a).eqv (.int b) = decide (a = b) := by
    show (a == b) = decide (a = b)
    by_cases h : a = b <;> simp [h]
  simp [eqB, SeqAt.shaped, PyData.canLay0, PyData.depth, e]
theorem runs_nx {Φ : Env} {n : Nat} {st : S} {ss : Ss} {s s1 : Sl} (h : run Φ n st s = .ok .nx s1) : runs Φ n (.cons st ss) s = runs Φ n ss s1 := by rw [runs, h]
theorem runs_rt {Φ : Env} {n : Nat} {st : S} {ss : Ss} {s s1 : Sl} {w : Bool} {d : D} (h : run Φ n st s = .ok (.rt w d) s1) : runs Φ n (.cons st ss) s = .ok (.rt w d) s1 := by rw [runs, h]
theorem runs_ex {Φ : Env} {n : Nat} {st : S} {ss : Ss} {s s1 : Sl} {c : Nat} {as : List D} (h : run Φ n st s = .ex c as s1) : runs Φ n (.cons st ss) s = .ex c as s1 := by rw [runs, h]
theorem ifs_false {Φ : Env} {n : Nat} {t : E} {a b : Ss} {s s1 : Sl} (h : ev Φ t s = .ok (.dt (.bool false)) s1) : run Φ n (.ifs t a b) s = runs Φ n b s1 := by rw [run, h]
theorem ifs_true {Φ : Env} {n : Nat} {t : E} {a b : Ss} {s s1 : Sl} (h : ev Φ t s = .ok (.dt (.bool true)) s1) : run Φ n (.ifs t a b) s = runs Φ n a s1 := by rw [run, h]
theorem runFn_rt {Φ : Env} {n : Nat} {f : Fn} {ds : List D} {s : Sl} {w : Bool} {d : D} (h : runs Φ n f.body (start f.mask ds ++ List.replicate (f.ns - ds.length) .no) = .ok (.rt w d) s) : runFn Φ n f ds = (outsOf f.mask s).map (.ok w d) := by
  unfold runFn; rw [h]
@[simp] theorem fmod_nat (a b : Nat) : Int.fmod (a : Int) (b : Int) = ((a % b : Nat) : Int) := by
  rw [Int.fmod_eq_emod_of_nonneg _ (Int.natCast_nonneg b)]
  rfl
def F_divisor : Fn := { np := 2, ns := 4, mask := [false, false], body := (.cons (.par 2 3 (.blt .abs (.cons (.var 0) .nil)) (.blt .abs (.cons (.var 1) .nil))) (.cons (.whl (.cmp .ne (.var 3) (.int 0)) (.cons (.par 2 3 (.var 3) (.bin .mod (.var 2) (.var 3))) .nil)) (.cons (.ret (.var 2)) .nil))) }
theorem abs_nat (a : Int) : (if a < 0 then -a else a) = (a.natAbs : Int) := by
  split <;> omega
theorem run_divisor (Φ : Env) (a b : Int) : runFn Φ (b.natAbs + 1) F_divisor [.int a, .int b] = some (.ok false (.int (Int.gcd a b)) []) := by
  have key := whl_ind (tst := fun s => ev Φ (.cmp .ne (.var 3) (.int 0)) s) (body := fun s => runs Φ (b.natAbs + 1) (.cons (.par 2 3 (.var 3) (.bin .mod (.var 2) (.var 3))) .nil) s)
    (fun m s => ∃ x y : Nat, s = [.val (.int a), .val (.int b), .val (.int x), .val (.int y)] ∧ m = y ∧ Nat.gcd x y = Int.gcd a b) (fun s => s = [.val (.int a), .val (.int b), .val (.int (Int.gcd a b)), .val (.int 0)])
    (by
      rintro m s ⟨x, y, rfl, rfl, hg⟩
      by_cases hy : m = 0
      · subst hy
        refine .inl ⟨_, by simp [ev, cmpD, ofO, Vl.get]; rfl, ?_⟩
        simp at hg
        simp [hg]
      · refine .inr ⟨_, [.val (.int a), .val (.int b), .val (.int m), .val (.int (x % m : Nat))], by simp [ev, cmpD, ofO, Vl.get, hy]; rfl, .inl ?_, x % m, Nat.mod_lt _ (by omega), m, x % m, rfl, rfl, ?_⟩
        · simp [runs, run, ev, binD, ofO, Vl.get, escs, esc, canSet, hy]
        · rw [← hg, Nat.gcd_comm x m, Nat.gcd_rec m x, Nat.gcd_comm])
    (b.natAbs + 1) b.natAbs [.val (.int a), .val (.int b), .val (.int a.natAbs), .val (.int b.natAbs)] ⟨_, _, rfl, rfl, rfl⟩ (by omega)
  obtain ⟨s', e, rfl⟩ := key
  refine (runFn_rt (f := F_divisor) (s := [.val (.int a), .val (.int b), .val (.int (Int.gcd a b)), .val (.int 0)]) ?_).trans rfl
  show runs Φ _ (.cons _ (.cons _ (.cons _ .nil))) _ = _
  refine (runs_nx (s1 := [.val (.int a), .val (.int b), .val (.int a.natAbs), .val (.int b.natAbs)]) ?_).trans ((runs_nx (s1 := [.val (.int a), .val (.int b), .val (.int (Int.gcd a b)), .val (.int 0)]) ?_).trans (runs_rt ?_))
  rotate_left
  · rw [run]; exact e
  · simp [run, ev, retV]
  simp [run, ev, evs, gets, bltD, ofO, Vl.get, escs, esc, canSet, abs_nat, start, F_divisor]
def F_gcd : Fn := { np := 2, ns := 2, mask := [false, false], body := (.cons (.asg (.nm 0) (.blt .abs (.cons (.var 0) .nil))) (.cons (.asg (.nm 1) (.blt .abs (.cons (.var 1) .nil))) (.cons (.whl (.cmp .gt (.var 1) (.int 0)) (.cons (.par 0 1 (.var 1) (.bin .mod (.var 0) (.var 1))) .nil)) (.cons (.ret (.var 0)) .nil)))) }
theorem run_gcd (Φ : Env) (a b : Int) : runFn Φ (b.natAbs + 1) F_gcd [.int a, .int b] = some (.ok false (.int (Int.gcd a b)) []) := by
  have key := whl_ind (tst := fun s => ev Φ (.cmp .gt (.var 1) (.int 0)) s) (body := fun s => runs Φ (b.natAbs + 1) (.cons (.par 0 1 (.var 1) (.bin .mod (.var 0) (.var 1))) .nil) s)
    (fun m s => ∃ x y : Nat, s = [.val (.int x), .val (.int y)] ∧ m = y ∧ Nat.gcd x y = Int.gcd a b) (fun s => s = [.val (.int (Int.gcd a b)), .val (.int 0)])
    (by
      rintro m s ⟨x, y, rfl, rfl, hg⟩
      by_cases hy : m = 0
      · subst hy
        refine .inl ⟨_, by simp [ev, cmpD, ofO, Vl.get]; rfl, ?_⟩
        simp at hg
        simp [hg]
      · have hy' : 0 < m := by omega
        refine .inr ⟨_, [.val (.int m), .val (.int (x % m : Nat))], by simp [ev, cmpD, ofO, Vl.get, hy']; rfl, .inl ?_, x % m, Nat.mod_lt _ (by omega), m, x % m, rfl, rfl, ?_⟩
        · simp [runs, run, ev, binD, ofO, Vl.get, escs, esc, canSet, hy]
        · rw [← hg, Nat.gcd_comm x m, Nat.gcd_rec m x, Nat.gcd_comm])
    (b.natAbs + 1) b.natAbs [.val (.int a.natAbs), .val (.int b.natAbs)] ⟨_, _, rfl, rfl, rfl⟩ (by omega)
  obtain ⟨s', e, rfl⟩ := key
  refine (runFn_rt (f := F_gcd) (s := [.val (.int (Int.gcd a b)), .val (.int 0)]) ?_).trans rfl
  show runs Φ _ (.cons _ (.cons _ (.cons _ (.cons _ .nil)))) _ = _
  refine (runs_nx (s1 := [.val (.int a.natAbs), .val (.int b)]) ?_).trans ((runs_nx (s1 := [.val (.int a.natAbs), .val (.int b.natAbs)]) ?_).trans ((runs_nx (s1 := [.val (.int (Int.gcd a b)), .val (.int 0)]) ?_).trans (runs_rt ?_)))
  · simp [run, ev, evs, gets, bltD, ofO, Vl.get, bindV, bindD, esc, canSet, abs_nat, start, F_gcd]
  · simp [run, ev, evs, gets, bltD, ofO, Vl.get, bindV, bindD, esc, canSet, abs_nat]
  · rw [run]; exact e
  · simp [run, ev, retV]
/-! the decoding -/
def dropZ : List Int → List Int
  | [] => []
  | x :: xs => if x = 0 then dropZ xs else x :: xs
def takeS (xs : List Int) (m : Int) : Int × List Int := match dropZ xs with
  | [] => (0, [])
  | y :: ys => (y.fmod m, y.fdiv m :: ys)
@[simp] theorem ixN_zero (n : Nat) : L2.ixN (n + 1) 0 = some 0 := by
  unfold L2.ixN
  rw [if_pos (by omega), if_pos (by omega)]
  rfl
@[simp] theorem atI_zero {α : Type} (x : α) (xs : List α) : L2.atI (x :: xs) 0 = some x := by
  unfold L2.atI
  rw [List.length_cons, ixN_zero]
  rfl
def F_take : Fn := { np := 2, ns := 3, mask := [true, false], body := (.cons (.whl (.and (.cons (.cmp .gt (.blt .len (.cons (.var 0) .nil)) (.int 0)) (.cons (.cmp .eq (.ix (.var 0) (.int 0)) (.int 0)) .nil))) (.cons (.expr (.mth .popAt 0 (.cons (.int 0) .nil))) .nil)) (.cons (.ifs (.cmp .eq (.blt .len (.cons (.var 0) .nil)) (.int 0)) (.cons (.ret (.int 0)) .nil) .nil) (.cons (.asg (.nm 2) (.bin .mod (.ix (.var 0) (.int 0)) (.var 1))) (.cons (.setIx 0 (.int 0) (.bin .fdiv (.ix (.var 0) (.int 0)) (.var 1))) (.cons (.ret (.var 2)) .nil))))) }
theorem run_take (Φ : Env) (xs : List Int) (m : Int) (h0 : m ≠ 0) (h1 : m.natAbs.log2 < 9000) : runFn Φ (xs.length + 1) F_take [.list (xs.map .int), .int m] = some (.ok false (.int (takeS xs m).1) [.list ((takeS xs m).2.map .int)]) := by
  have key := whl_ind (tst := fun s => ev Φ (.and (.cons (.cmp .gt (.blt .len (.cons (.var 0) .nil)) (.int 0)) (.cons (.cmp .eq (.ix (.var 0) (.int 0)) (.int 0)) .nil))) s) (body := fun s => runs Φ (xs.length + 1) (.cons (.expr (.mth .popAt 0 (.cons (.int 0) .nil))) .nil) s)
    (fun k s => ∃ ys : List Int, s = [.own true (.list (ys.map .int)), .val (.int m), .no] ∧ k = ys.length ∧ dropZ ys = dropZ xs) (fun s => s = [.own true (.list ((dropZ xs).map .int)), .val (.int m), .no])
    (by
      rintro k s ⟨ys, rfl, rfl, hg⟩
      cases ys with
      | nil =>
        refine .inl ⟨_, by simp [ev, evs, evAnd, gets, bltD, cmpD, ofO, Vl.get]; rfl, ?_⟩
        rw [← hg]; rfl
      | cons y ys =>
        by_cases hy : y = 0
        · subst hy
          refine .inr ⟨_, [.own true (.list (ys.map .int)), .val (.int m), .no], by simp [ev, evs, evAnd, gets, bltD, cmpD, ofO, Vl.get, ixD]; rfl, .inl ?_, ys.length, by simp, ys, rfl, rfl, ?_⟩
          · simp [runs, run, ev, evs, escs, esc, mthD]
          · rw [← hg]; simp [dropZ]
        · refine .inl ⟨_, by simp [ev, evs, evAnd, gets, bltD, cmpD, ofO, Vl.get, ixD, hy]; rfl, ?_⟩
          rw [← hg]; simp [dropZ, hy])
    (xs.length + 1) xs.length [.own true (.list (xs.map .int)), .val (.int m), .no] ⟨_, rfl, rfl, rfl⟩ (by omega)
  obtain ⟨s', e, rfl⟩ := key
  have w : run Φ (xs.length + 1) (.whl (.and (.cons (.cmp .gt (.blt .len (.cons (.var 0) .nil)) (.int 0)) (.cons (.cmp .eq (.ix (.var 0) (.int 0)) (.int 0)) .nil))) (.cons (.expr (.mth .popAt 0 (.cons (.int 0) .nil))) .nil)) [.own true (.list (xs.map .int)), .val (.int m), .no] = .ok .nx [.own true (.list ((dropZ xs).map .int)), .val (.int m), .no] := by
    rw [run]; exact e
  unfold takeS
  cases hd : dropZ xs with
  | nil =>
    rw [hd] at w
    refine (runFn_rt (f := F_take) (s := [.own true (.list []), .val (.int m), .no]) ?_).trans rfl
    refine (runs_nx w).trans (runs_rt ?_)
    simp [runs, run, ev, evs, gets, bltD, cmpD, ofO, Vl.get, retV]
  | cons y ys =>
    rw [hd] at w
    refine (runFn_rt (f := F_take) (s := [.own true (.list ((y.fdiv m :: ys).map .int)), .val (.int m), .val (.int (y.fmod m))]) ?_).trans rfl
    refine (runs_nx w).trans ?_
    have hl : ¬ ((ys.length : Int) + 1 = 0) := by omega
    simp [runs, run, ev, evs, gets, bltD, cmpD, ofO, Vl.get, retV, ixD, binD, h0, divB, h1, bindV, bindD, esc, canSet, hl]

def F_row : Fn := { np := 1, ns := 7, mask := [false], body := (.cons (.asg (.nm 1) (.lst .nil)) (.cons (.for_ (.tp (.cons (.nm 2) (.cons (.nm 3) .nil))) (.enm (.slc (.var 0) .no (.so (.int 63)))) (.cons (.ifs (.cmp .ge (.var 3) (.bin .pow (.int 10) (.int 18))) (.cons (.expr (.mth .append 1 (.cons (.bin .sub (.var 3) (.bin .pow (.int 10) (.int 18))) .nil))) .nil) (.cons (.asg (.nm 4) (.bin .mod (.bin .mul (.bin .add (.bin .add (.bin .add (.var 3) (.bin .mul (.bin .mul (.int 7) (.var 2)) (.var 2))) (.bin .mul (.int 13) (.var 2))) (.int 5)) (.int 48271)) (.int 2147483647))) (.cons (.asg (.nm 5) (.bin .mod (.bin .mul (.bin .add (.bin .add (.bin .add (.var 3) (.bin .mul (.bin .mul (.int 11) (.var 2)) (.var 2))) (.bin .mul (.int 17) (.var 2))) (.int 3)) (.int 40692)) (.int 2147483399))) (.cons (.asg (.nm 6) (.bin .mod (.bin .mul (.bin .add (.bin .add (.bin .add (.var 3) (.bin .mul (.bin .mul (.int 5) (.var 2)) (.var 2))) (.bin .mul (.int 29) (.var 2))) (.int 8)) (.int 39373)) (.int 2147483587))) (.cons (.asg (.nm 4) (.bin .mod (.bin .mul (.var 4) (.int 52021)) (.int 1000000007))) (.cons (.asg (.nm 5) (.bin .mod (.bin .mul (.var 5) (.int 30011)) (.int 998244353))) (.cons (.asg (.nm 6) (.bin .mod (.bin .mul (.var 6) (.int 45989)) (.int 1000000009))) (.cons (.expr (.mth .append 1 (.cons (.bin .add (.bin .mul (.bin .add (.bin .mul (.var 4) (.int 998244353)) (.var 5)) (.int 1000000009)) (.var 6)) .nil))) .nil)))))))) .nil)) (.cons (.ret (.var 1)) .nil))) }
def fre : Slot → Bool
  | .own true _ => false
  | _ => true
theorem canSet_fre {s : Sl} {i : Nat} {x : Slot} (h : s[i]? = some x) (f : fre x = true) : canSet s i = true := by
  unfold canSet
  rw [h]
  cases x with
  | own p d => cases p <;> first | rfl | cases f
  | _ => rfl
theorem mulB_l {a b : Int} (h : b.natAbs < 2 ^ 64) : mulB a b = true := by simp [mulB, h]
theorem mulB_r {a b : Int} (h : a.natAbs < 2 ^ 64) : mulB a b = true := by simp [mulB, h]
theorem enumD_all (P : D → Prop) : ∀ (ns : List Int) (k : Nat), (k + ns.length ≤ 1000 → ∀ d ∈ enumD k (ns.map .int), ∃ (j : Nat) (v : Int), j < 1000 ∧ d = .tuple [.int j, .int v])
  | [], k, _, d, h => by simp [enumD] at h
  | n :: ns, k, hk, d, h => by
    simp only [List.map_cons, enumD, List.mem_cons] at h
    rcases h with rfl | h
    · exact ⟨k, n, by simp at hk; omega, rfl⟩
    · exact enumD_all P ns (k + 1) (by simp at hk; omega) d h
theorem enumD_length : ∀ (ns : List D) (k : Nat), (enumD k ns).length = ns.length
  | [], _ => rfl
  | _ :: ns, k => by simp [enumD, enumD_length ns]
theorem cut63 (ns : List Int) : cutD (ns.map PyData.int) none (some 63) = (ns.take 63).map PyData.int := by
  have e : HT.sIx (ns.map PyData.int).length (ns.map PyData.int).length (some 63) = min 63 (ns.map PyData.int).length := HT.sIx_nat _ _ 63
  unfold cutD
  rw [e, HT.sIx_none, List.drop_zero, Nat.sub_zero, List.map_take]
  simp [List.take_eq_take_iff]
theorem asg_nm {Φ : Env} {n : Nat} {e : E} {i : Nat} {s s1 : Sl} {d : D} (h : ev Φ e s = .ok (.dt d) s1) (c : canSet s1 i = true) : run Φ n (.asg (.nm i) e) s = .ok .nx (s1.set i (.val d)) := by
  rw [run, h]
  simp [bindV, bindD, esc, c]
theorem ev_hash {Φ : Env} {s : Sl} {j : Nat} {v p q r m w : Int} (h2 : s[2]? = some (.val (.int j))) (h3 : s[3]? = some (.val (.int v))) (hj : (j : Int).natAbs < 2 ^ 64) (hp : p.natAbs < 2 ^ 64) (hq : q.natAbs < 2 ^ 64) (hm : m.natAbs < 2 ^ 64) (hw : w ≠ 0) :
    ev Φ (.bin .mod (.bin .mul (.bin .add (.bin .add (.bin .add (.var 3) (.bin .mul (.bin .mul (.int p) (.var 2)) (.var 2))) (.bin .mul (.int q) (.var 2))) (.int r)) (.int m)) (.int w)) s = .ok (.dt (.int (((v + p * j * j + q * j + r) * m).fmod w))) s := by
  simp [ev, h2, h3, Vl.get, binD, ofO, mulB_r hp, mulB_l hj, mulB_r hq, mulB_l hm, hw]
theorem ev_mm {Φ : Env} {s : Sl} {i : Nat} {v m w : Int} (h : s[i]? = some (.val (.int v))) (hm : m.natAbs < 2 ^ 64) (hw : w ≠ 0) :
    ev Φ (.bin .mod (.bin .mul (.var i) (.int m)) (.int w)) s = .ok (.dt (.int ((v * m).fmod w))) s := by
  simp [ev, h, Vl.get, binD, ofO, mulB_l hm, hw]
theorem mulB_998 (a : Int) : mulB a 998244353 = true := mulB_l (by decide)
theorem mulB_109 (a : Int) : mulB a 1000000009 = true := mulB_l (by decide)
def hs (p q r m w : Int) (j : Nat) (v : Int) : Int := ((v + p * j * j + q * j + r) * m).fmod w
def mm (v m w : Int) : Int := (v * m).fmod w
def rowCell (j : Nat) (v : Int) : Int := if 1000000000000000000 ≤ v then v - 1000000000000000000 else
  (mm (hs 7 13 5 48271 2147483647 j v) 52021 1000000007 * 998244353 + mm (hs 11 17 3 40692 2147483399 j v) 30011 998244353) * 1000000009 + mm (hs 5 29 8 39373 2147483587 j v) 45989 1000000009
def rowL : Nat → List Int → List Int
  | _, [] => []
  | k, v :: vs => rowCell k v :: rowL (k + 1) vs
def rowS (ns : List Int) : List Int := rowL 0 (ns.take 63)
theorem row_turn (Φ : Env) (n : Nat) (x0 x4 x5 x6 : Slot) (rs : List Int) (j : Nat) (v : Int) (hj : j < 1000) (h4 : fre x4 = true) (h5 : fre x5 = true) (h6 : fre x6 = true) (hl : rs.length < sizeLine) :
    ∃ (y4 y5 y6 : Slot), fre y4 = true ∧ fre y5 = true ∧ fre y6 = true ∧ (runs Φ n (.cons (.ifs (.cmp .ge (.var 3) (.bin .pow (.int 10) (.int 18))) (.cons (.expr (.mth .append 1 (.cons (.bin .sub (.var 3) (.bin .pow (.int 10) (.int 18))) .nil))) .nil) (.cons (.asg (.nm 4) (.bin .mod (.bin .mul (.bin .add (.bin .add (.bin .add (.var 3) (.bin .mul (.bin .mul (.int 7) (.var 2)) (.var 2))) (.bin .mul (.int 13) (.var 2))) (.int 5)) (.int 48271)) (.int 2147483647))) (.cons (.asg (.nm 5) (.bin .mod (.bin .mul (.bin .add (.bin .add (.bin .add (.var 3) (.bin .mul (.bin .mul (.int 11) (.var 2)) (.var 2))) (.bin .mul (.int 17) (.var 2))) (.int 3)) (.int 40692)) (.int 2147483399))) (.cons (.asg (.nm 6) (.bin .mod (.bin .mul (.bin .add (.bin .add (.bin .add (.var 3) (.bin .mul (.bin .mul (.int 5) (.var 2)) (.var 2))) (.bin .mul (.int 29) (.var 2))) (.int 8)) (.int 39373)) (.int 2147483587))) (.cons (.asg (.nm 4) (.bin .mod (.bin .mul (.var 4) (.int 52021)) (.int 1000000007))) (.cons (.asg (.nm 5) (.bin .mod (.bin .mul (.var 5) (.int 30011)) (.int 998244353))) (.cons (.asg (.nm 6) (.bin .mod (.bin .mul (.var 6) (.int 45989)) (.int 1000000009))) (.cons (.expr (.mth .append 1 (.cons (.bin .add (.bin .mul (.bin .add (.bin .mul (.var 4) (.int 998244353)) (.var 5)) (.int 1000000009)) (.var 6)) .nil))) .nil)))))))) .nil) [x0, .own false (.list (rs.map .int)), .val (.int j), .val (.int v), x4, x5, x6]
      = .ok .nx [x0, .own false (.list ((rs ++ [rowCell j v]).map .int)), .val (.int j), .val (.int v), y4, y5, y6]) := by
  have hj2 : (j : Int).natAbs < 2 ^ 64 := by omega
  have hm : ∀ a : Int, mulB a j = true := fun a => mulB_l hj2
  by_cases hv : (1000000000000000000 : Int) ≤ v
  · refine ⟨x4, x5, x6, h4, h5, h6, ?_⟩
    simp [rowCell, runs, run, ev, evs, binD, cmpD, ofO, Vl.get, escs, esc, mthD, hv, hl]
  · have c4 : ∀ {s : Sl}, s[4]? = some x4 → canSet s 4 = true := fun h => canSet_fre h h4
    have c5 : ∀ {s : Sl}, s[5]? = some x5 → canSet s 5 = true := fun h => canSet_fre h h5
    have c6 : ∀ {s : Sl}, s[6]? = some x6 → canSet s 6 = true := fun h => canSet_fre h h6
    have t : ∃ (a4 a5 a6 : Int), runs Φ n (.cons (.asg (.nm 4) (.bin .mod (.bin .mul (.bin .add (.bin .add (.bin .add (.var 3) (.bin .mul (.bin .mul (.int 7) (.var 2)) (.var 2))) (.bin .mul (.int 13) (.var 2))) (.int 5)) (.int 48271)) (.int 2147483647))) (.cons (.asg (.nm 5) (.bin .mod (.bin .mul (.bin .add (.bin .add (.bin .add (.var 3) (.bin .mul (.bin .mul (.int 11) (.var 2)) (.var 2))) (.bin .mul (.int 17) (.var 2))) (.int 3)) (.int 40692)) (.int 2147483399))) (.cons (.asg (.nm 6) (.bin .mod (.bin .mul (.bin .add (.bin .add (.bin .add (.var 3) (.bin .mul (.bin .mul (.int 5) (.var 2)) (.var 2))) (.bin .mul (.int 29) (.var 2))) (.int 8)) (.int 39373)) (.int 2147483587))) (.cons (.asg (.nm 4) (.bin .mod (.bin .mul (.var 4) (.int 52021)) (.int 1000000007))) (.cons (.asg (.nm 5) (.bin .mod (.bin .mul (.var 5) (.int 30011)) (.int 998244353))) (.cons (.asg (.nm 6) (.bin .mod (.bin .mul (.var 6) (.int 45989)) (.int 1000000009))) (.cons (.expr (.mth .append 1 (.cons (.bin .add (.bin .mul (.bin .add (.bin .mul (.var 4) (.int 998244353)) (.var 5)) (.int 1000000009)) (.var 6)) .nil))) .nil))))))) [x0, .own false (.list (rs.map .int)), .val (.int j), .val (.int v), x4, x5, x6] = .ok .nx [x0, .own false (.list ((rs ++ [rowCell j v]).map .int)), .val (.int j), .val (.int v), .val (.int a4), .val (.int a5), .val (.int a6)] := by
      refine ⟨?a4, ?a5, ?a6, ?main⟩
      rotate_left 3
      refine (runs_nx (asg_nm (ev_hash rfl rfl hj2 (by decide) (by decide) (by decide) (by decide)) (c4 rfl))).trans ?_
      refine (runs_nx (asg_nm (ev_hash rfl rfl hj2 (by decide) (by decide) (by decide) (by decide)) (c5 rfl))).trans ?_
      refine (runs_nx (asg_nm (ev_hash rfl rfl hj2 (by decide) (by decide) (by decide) (by decide)) (c6 rfl))).trans ?_
      refine (runs_nx (asg_nm (ev_mm rfl (by decide) (by decide)) rfl)).trans ?_
      refine (runs_nx (asg_nm (ev_mm rfl (by decide) (by decide)) rfl)).trans ?_
      refine (runs_nx (asg_nm (ev_mm rfl (by decide) (by decide)) rfl)).trans ?_
      simp only [runs, run, ev, evs, List.set_cons_succ, List.set_cons_zero, List.getElem?_cons_succ, List.getElem?_cons_zero, Vl.get, binD, ofO, mulB_998, mulB_109, if_true, escs, esc, mthD, List.length_map, decide_eq_true hl]
      rw [List.map_append, List.map_cons, List.map_nil, rowCell, if_neg hv]
      rfl
    obtain ⟨a4, a5, a6, t⟩ := t
    refine ⟨.val (.int a4), .val (.int a5), .val (.int a6), rfl, rfl, rfl, ?_⟩
    refine (runs_nx ((ifs_false (s1 := [x0, .own false (.list (rs.map .int)), .val (.int j), .val (.int v), x4, x5, x6]) ?_).trans t)).trans rfl
    simp [ev, Vl.get, binD, ofO, cmpD, hv]
theorem run_row (Φ : Env) (ns : List Int) : runFn Φ 0 F_row [frzD (ns.map .int)] = some (.ok true (.list ((rowS ns).map .int)) []) := by
  have h63 : 63 < sizeLine := by decide
  obtain ⟨s', e, i⟩ := for_ind (t := .tp (.cons (.nm 2) (.cons (.nm 3) .nil))) (body := fun s => runs Φ 0 (.cons (.ifs (.cmp .ge (.var 3) (.bin .pow (.int 10) (.int 18))) (.cons (.expr (.mth .append 1 (.cons (.bin .sub (.var 3) (.bin .pow (.int 10) (.int 18))) .nil))) .nil) (.cons (.asg (.nm 4) (.bin .mod (.bin .mul (.bin .add (.bin .add (.bin .add (.var 3) (.bin .mul (.bin .mul (.int 7) (.var 2)) (.var 2))) (.bin .mul (.int 13) (.var 2))) (.int 5)) (.int 48271)) (.int 2147483647))) (.cons (.asg (.nm 5) (.bin .mod (.bin .mul (.bin .add (.bin .add (.bin .add (.var 3) (.bin .mul (.bin .mul (.int 11) (.var 2)) (.var 2))) (.bin .mul (.int 17) (.var 2))) (.int 3)) (.int 40692)) (.int 2147483399))) (.cons (.asg (.nm 6) (.bin .mod (.bin .mul (.bin .add (.bin .add (.bin .add (.var 3) (.bin .mul (.bin .mul (.int 5) (.var 2)) (.var 2))) (.bin .mul (.int 29) (.var 2))) (.int 8)) (.int 39373)) (.int 2147483587))) (.cons (.asg (.nm 4) (.bin .mod (.bin .mul (.var 4) (.int 52021)) (.int 1000000007))) (.cons (.asg (.nm 5) (.bin .mod (.bin .mul (.var 5) (.int 30011)) (.int 998244353))) (.cons (.asg (.nm 6) (.bin .mod (.bin .mul (.var 6) (.int 45989)) (.int 1000000009))) (.cons (.expr (.mth .append 1 (.cons (.bin .add (.bin .mul (.bin .add (.bin .mul (.var 4) (.int 998244353)) (.var 5)) (.int 1000000009)) (.var 6)) .nil))) .nil)))))))) .nil) s)
    (fun ds s => ∃ (k : Nat) (vs : List Int), ds = enumD k (vs.map .int) ∧ k + vs.length ≤ 63 ∧ ∃ (rs : List Int) (x2 x3 x4 x5 x6 : Slot), s = [.val (frzD (ns.map .int)), .own false (.list (rs.map .int)), x2, x3, x4, x5, x6] ∧ fre x2 = true ∧ fre x3 = true ∧ fre x4 = true ∧ fre x5 = true ∧ fre x6 = true ∧ rs.length = k ∧ rs ++ rowL k vs = rowS ns)
    (by
      rintro d ds s ⟨k, vs, hds, hk, rs, x2, x3, x4, x5, x6, rfl, h2, h3, h4, h5, h6, hl, hr⟩
      cases vs with
      | nil => simp [enumD] at hds
      | cons v vs =>
      simp only [List.map_cons, enumD, List.cons.injEq] at hds
      obtain ⟨rfl, rfl⟩ := hds
      simp only [List.length_cons] at hk
      have hl' : rs.length < sizeLine := by omega
      obtain ⟨y4, y5, y6, k4, k5, k6, e⟩ := row_turn Φ 0 (.val (frzD (ns.map .int))) x4 x5 x6 rs k v (by omega) h4 h5 h6 hl'
      refine ⟨_, _, ?_, .inl e, k + 1, vs, rfl, by omega, rs ++ [rowCell k v], _, _, _, _, _, rfl, rfl, rfl, k4, k5, k6, by simp [hl], by rw [← hr]; simp [rowL]⟩
      have c2 : ∀ {s : Sl}, s[2]? = some x2 → canSet s 2 = true := fun h => canSet_fre h h2
      have c3 : ∀ {s : Sl}, s[3]? = some x3 → canSet s 3 = true := fun h => canSet_fre h h3
      simp [bindD, bindDs, c2, c3])
    (enumD 0 ((ns.take 63).map .int)) [.val (frzD (ns.map .int)), .own false (.list []), .no, .no, .no, .no, .no]
    ⟨0, ns.take 63, rfl, by simp; omega, [], .no, .no, .no, .no, .no, rfl, rfl, rfl, rfl, rfl, rfl, rfl, rfl⟩
  obtain ⟨k, vs, hds, hk, rs, x2, x3, x4, x5, x6, rfl, _, _, _, _, _, hl, hr⟩ := i
  have hvs : vs = [] := by cases vs <;> first | rfl | simp [enumD] at hds
  subst hvs
  simp only [rowL, List.append_nil] at hr
  subst hr
  refine (runFn_rt (f := F_row) (s := [.val (frzD (ns.map .int)), .own false (.list ((rowS ns).map .int)), x2, x3, x4, x5, x6]) ?_).trans rfl
  refine (runs_nx (s1 := [.val (frzD (ns.map .int)), .own false (.list []), .no, .no, .no, .no, .no]) ?_).trans ((runs_nx (s1 := [.val (frzD (ns.map .int)), .own false (.list ((rowS ns).map .int)), x2, x3, x4, x5, x6]) ?_).trans (runs_rt ?_))
  · simp [run, ev, evs, escs, sizeB, bindV, canSet, start, F_row]
  · rw [run]
    have : evIt Φ (.enm (.slc (.var 0) .no (.so (.int 63)))) [.val (frzD (ns.map .int)), .own false (.list []), .no, .no, .no, .no, .no] = .ok (enumD 0 ((ns.take 63).map .int)) [.val (frzD (ns.map .int)), .own false (.list []), .no, .no, .no, .no, .no] := by
      simp [evIt, ev, evo, Vl.get, slcD, frzD, ofO, esc, cut63]
    rw [this]
    exact e
  · simp [run, ev, retV]
def F_whole : Fn := { np := 1, ns := 1, mask := [false], body := (.cons (.ret (.and (.cons (.isT (.var 0) .int) (.cons (.not (.isT (.var 0) .bool)) .nil)))) .nil) }
theorem run_whole (Φ : Env) (i : Int) : runFn Φ 0 F_whole [.int i] = some (.ok false (.bool true) []) := by
  simp [runFn, F_whole, start, runs, run, ev, evAnd, Vl.get, isTD, ofO, retV, outsOf]

theorem dropZ_head : ∀ (xs : List Int) (y : Int) (ys : List Int), dropZ xs = y :: ys → y ≠ 0
  | [], y, ys, h => by simp [dropZ] at h
  | x :: xs, y, ys, h => by
    unfold dropZ at h
    split at h
    · exact dropZ_head xs y ys h
    · cases h; assumption
theorem takeS_rng (xs : List Int) {m : Int} (h : 0 < m) : 0 ≤ (takeS xs m).1 ∧ (takeS xs m).1 < m := by
  unfold takeS
  split
  · exact ⟨Int.le_refl _, h⟩
  · exact ⟨Int.fmod_nonneg_of_pos _ h, Int.fmod_lt_of_pos _ h⟩
def mostS (i : Int) : Int := if i = 0 then 12 else if i = 1 then 1000000000 else 10000000000000000000000000000000000000000
def numS (xs : List Int) : Int × List Int := let p := takeS xs 3; let q := takeS p.2 (2 * mostS p.1 + 1); (q.1 - mostS p.1, q.2)
theorem mostS_rng (i : Int) : 0 < mostS i ∧ mostS i ≤ 10000000000000000000000000000000000000000 := by
  unfold mostS
  split
  · omega
  · split <;> omega
theorem numS_rng (xs : List Int) : (numS xs).1.natAbs ≤ 10000000000000000000000000000000000000000 := by
  unfold numS
  have h1 := mostS_rng (takeS xs 3).1
  have h2 := takeS_rng (takeS xs 3).2 (m := 2 * mostS (takeS xs 3).1 + 1) (by omega)
  simp only
  omega
theorem log2_le {n k : Nat} (h : n < 2 ^ (k + 1)) : n.log2 ≤ k := by
  by_cases h0 : n = 0
  · subst h0; simp
  · exact Nat.le_of_lt_succ ((Nat.log2_lt h0).mpr h)
theorem big40 {n : Nat} (h : n ≤ 20000000000000000000000000000000000000001) : n.log2 < 9000 := by
  have : n.log2 ≤ 200 := log2_le (Nat.lt_of_le_of_lt h (by decide))
  omega
/-- what the callers know of the decoder's parts -/
structure TakeOk (Φ : Env) (t : Nat) : Prop where
  fn : ∀ (xs : List Int) (m : Int), 0 < m → m.natAbs.log2 < 9000 → Φ.fn t [.list (xs.map .int), .int m] = some (.ok false (.int (takeS xs m).1) [.list ((takeS xs m).2.map .int)])
  mask : Φ.mask t = [true, false]
structure NumOk (Φ : Env) (t : Nat) : Prop where
  fn : ∀ (xs : List Int), Φ.fn t [.list (xs.map .int)] = some (.ok false (.int (numS xs).1) [.list ((numS xs).2.map .int)])
  mask : Φ.mask t = [true]
theorem ev_take {Φ : Env} {t i : Nat} {e : E} {p : Bool} {s : Sl} {xs : List Int} {m : Int} (T : TakeOk Φ t) (h : s[i]? = some (.own p (.list (xs.map .int)))) (he : ev Φ e s = .ok (.dt (.int m)) s) (h0 : 0 < m) (h1 : m.natAbs.log2 < 9000) :
    ev Φ (.call t (.cons (.var i) (.cons e .nil)) []) s = .ok (.dt (.int (takeS xs m).1)) (s.set i (.own p (.list ((takeS xs m).2.map .int)))) := by
  simp [ev, evs, h, he, T.mask, escM, esc, mskOk, brs, gets, Vl.get, T.fn xs m h0 h1, backL, vlOf]
theorem ev_num {Φ : Env} {t i : Nat} {p : Bool} {s : Sl} {xs : List Int} (T : NumOk Φ t) (h : s[i]? = some (.own p (.list (xs.map .int)))) :
    ev Φ (.call t (.cons (.var i) .nil) []) s = .ok (.dt (.int (numS xs).1)) (s.set i (.own p (.list ((numS xs).2.map .int)))) := by
  simp [ev, evs, h, T.mask, escM, esc, mskOk, brs, gets, Vl.get, T.fn xs, backL, vlOf]
def F_number (t : Nat) : Fn := { np := 1, ns := 2, mask := [true], body := (.cons (.asg (.nm 1) (.ix (.lst (.cons (.int 12) (.cons (.bin .pow (.int 10) (.int 9)) (.cons (.bin .pow (.int 10) (.int 40)) .nil)))) (.call t (.cons (.var 0) (.cons (.int 3) .nil)) []))) (.cons (.ret (.bin .sub (.call t (.cons (.var 0) (.cons (.bin .add (.bin .mul (.int 2) (.var 1)) (.int 1)) .nil)) []) (.var 1))) .nil)) }
theorem three {i : Int} (h0 : 0 ≤ i) (h1 : i < 3) : i = 0 ∨ i = 1 ∨ i = 2 := by omega
theorem at3 {i : Int} (h0 : 0 ≤ i) (h1 : i < 3) : L2.atI [PyData.int 12, PyData.int 1000000000, PyData.int 10000000000000000000000000000000000000000] i = some (.int (mostS i)) := by
  rcases three h0 h1 with rfl | rfl | rfl <;> rfl
theorem ev_ix {Φ : Env} {a b : E} {s s1 s2 : Sl} {x y : Vl} {dx dy r : D} (ha : ev Φ a s = .ok x s1) (hb : ev Φ b s1 = .ok y s2) (gx : x.get s2 = some dx) (gy : y.get s2 = some dy) (hi : ixD dx dy = some r) : ev Φ (.ix a b) s = .ok (.dt r) s2 := by
  rw [ev, ha]
  simp [hb, gx, gy, hi, ofO]
theorem ev_lst {Φ : Env} {es : Es} {s s1 s2 : Sl} {vs : List Vl} {ds : List D} (h : evs Φ es s = .ok vs s1) (h2 : escs s1 vs = some (ds, s2)) (hz : sizeB ds.length = true) : ev Φ (.lst es) s = .ok (.nw (.list ds)) s2 := by
  rw [ev, h]
  simp [h2, hz]
theorem evs_nil {Φ : Env} {s : Sl} : evs Φ .nil s = .ok [] s := by rw [evs]
theorem evs_cons {Φ : Env} {e : E} {es : Es} {s s1 s2 : Sl} {v : Vl} {vs : List Vl} (h : ev Φ e s = .ok v s1) (h2 : evs Φ es s1 = .ok vs s2) : evs Φ (.cons e es) s = .ok (v :: vs) s2 := by rw [evs, h]; simp only [h2]
theorem ev_bin {Φ : Env} {op : BOp} {a b : E} {s s1 s2 : Sl} {x y : Vl} {dx dy : D} {r : Vl} (ha : ev Φ a s = .ok x s1) (hb : ev Φ b s1 = .ok y s2) (gx : x.get s2 = some dx) (gy : y.get s2 = some dy) (hi : binD op dx dy = some r) : ev Φ (.bin op a b) s = .ok r s2 := by
  rw [ev, ha]
  simp [hb, gx, gy, hi, ofO]
theorem ev_vi {Φ : Env} {s : Sl} {i : Nat} {d : D} (h : s[i]? = some (.val d)) : ev Φ (.var i) s = .ok (.dt d) s := by rw [ev, h]
theorem ev_ii {Φ : Env} {s : Sl} {i : Int} : ev Φ (.int i) s = .ok (.dt (.int i)) s := by rw [ev]
theorem run_number (Φ : Env) (t : Nat) (T : TakeOk Φ t) (xs : List Int) : runFn Φ 0 (F_number t) [.list (xs.map .int)] = some (.ok false (.int (numS xs).1) [.list ((numS xs).2.map .int)]) := by
  obtain ⟨r0, r1⟩ := takeS_rng xs (m := 3) (by decide)
  obtain ⟨m0, m1⟩ := mostS_rng (takeS xs 3).1
  have e1 := ev_take (Φ := Φ) (t := t) (i := 0) (e := .int 3) (p := true) (s := [.own true (.list (xs.map .int)), .no]) T rfl (by rw [ev]) (by decide) (by decide)
  have e2 := ev_take (Φ := Φ) (t := t) (i := 0) (e := (.bin .add (.bin .mul (.int 2) (.var 1)) (.int 1))) (p := true) (m := 2 * mostS (takeS xs 3).1 + 1) (s := [.own true (.list ((takeS xs 3).2.map .int)), .val (.int (mostS (takeS xs 3).1))]) T rfl
    (by simp [ev, Vl.get, binD, ofO, mulB]) (by omega) (big40 (by omega))
  refine (runFn_rt (f := F_number t) (s := [.own true (.list ((numS xs).2.map .int)), .val (.int (mostS (takeS xs 3).1))]) ?_).trans rfl
  refine (runs_nx (s1 := [.own true (.list ((takeS xs 3).2.map .int)), .val (.int (mostS (takeS xs 3).1))]) ?_).trans (runs_rt ?_)
  · exact asg_nm (ev_ix (ev_lst (vs := [.dt (.int 12), .dt (.int 1000000000), .dt (.int 10000000000000000000000000000000000000000)]) (s1 := [.own true (.list (xs.map .int)), .no]) (s2 := [.own true (.list (xs.map .int)), .no]) (by simp [F_number, start, evs, ev, Vl.get, binD, ofO]) rfl rfl) e1 rfl rfl (at3 r0 r1)) rfl
  · rw [run, ev, e2]
    simp [ev, Vl.get, binD, ofO, retV, numS]

structure GcdOk (Φ : Env) (t : Nat) : Prop where
  fn : ∀ a b : Int, Φ.fn t [.int a, .int b] = some (.ok false (.int (Int.gcd a b)) [])
  mask : Φ.mask t = [false, false]
structure RowOk (Φ : Env) (t : Nat) : Prop where
  fn : ∀ ns : List Int, Φ.fn t [frzD (ns.map .int)] = some (.ok true (.list ((rowS ns).map .int)) [])
  mask : Φ.mask t = [false]
theorem ev_gcd {Φ : Env} {t : Nat} {e f : E} {s : Sl} {a b : Int} (T : GcdOk Φ t) (he : ev Φ e s = .ok (.dt (.int a)) s) (hf : ev Φ f s = .ok (.dt (.int b)) s) :
    ev Φ (.call t (.cons e (.cons f .nil)) []) s = .ok (.dt (.int (Int.gcd a b))) s := by
  simp [ev, evs, he, hf, T.mask, escM, esc, mskOk, brs, gets, Vl.get, T.fn a b, backL, vlOf]
theorem ev_row {Φ : Env} {t i : Nat} {s : Sl} {ns : List Int} (T : RowOk Φ t) (h : s[i]? = some (.val (frzD (ns.map .int)))) :
    ev Φ (.call t (.cons (.var i) .nil) []) s = .ok (.nw (.list ((rowS ns).map .int))) s := by
  simp [ev, evs, h, T.mask, escM, esc, mskOk, brs, gets, Vl.get, T.fn ns, backL, vlOf]
theorem asg_nw {Φ : Env} {n : Nat} {e : E} {i : Nat} {s s1 : Sl} {d : D} (h : ev Φ e s = .ok (.nw d) s1) (c : canSet s1 i = true) : run Φ n (.asg (.nm i) e) s = .ok .nx (s1.set i (.own false d)) := by
  rw [run, h]
  simp [bindV, c]

/-! what a def is said to do, by its arguments' form -/
theorem intsOf_map : ∀ ns : List Int, intsOf (ns.map PyData.int) = some ns
  | [] => rfl
  | n :: ns => by rw [List.map_cons, intsOf, intsOf_map ns]
theorem intsOf_some : ∀ {ds : List D} {ns : List Int}, intsOf ds = some ns → ds = ns.map PyData.int
  | [], ns, h => by cases h; rfl
  | d :: ds, ns, h => by
    cases d with
    | int i =>
      unfold intsOf at h
      split at h
      · rename_i ms e
        cases h
        rw [intsOf_some e]
        rfl
      · cases h
    | _ => simp [intsOf] at h
def gfrz (g : List Int → Option Ret) : List D → Option Ret
  | [.dict [(.none, .list ds)]] => (intsOf ds).bind g
  | _ => none
def glst (g : List Int → Option Ret) : List D → Option Ret
  | [.list ds] => (intsOf ds).bind g
  | _ => none
def glsti (g : List Int → Int → Option Ret) : List D → Option Ret
  | [.list ds, .int m] => (intsOf ds).bind fun xs => g xs m
  | _ => none
def gint (g : Int → Option Ret) : List D → Option Ret
  | [.int a] => g a
  | _ => none
def gint2 (g : Int → Int → Option Ret) : List D → Option Ret
  | [.int a, .int b] => g a b
  | _ => none
theorem gfrz_at (g : List Int → Option Ret) (ns : List Int) : gfrz g [frzD (ns.map .int)] = g ns := by
  unfold gfrz frzD
  simp [intsOf_map]
theorem glst_at (g : List Int → Option Ret) (ns : List Int) : glst g [.list (ns.map .int)] = g ns := by
  unfold glst
  simp [intsOf_map]
theorem glsti_at (g : List Int → Int → Option Ret) (ns : List Int) (m : Int) : glsti g [.list (ns.map .int), .int m] = g ns m := by
  unfold glsti
  simp [intsOf_map]
theorem gfrz_inv {g : List Int → Option Ret} {ds : List D} {r : Ret} (h : gfrz g ds = some r) : ∃ ns, ds = [frzD (ns.map .int)] ∧ g ns = some r := by
  unfold gfrz at h
  split at h
  · rename_i es
    obtain ⟨ns, e, q⟩ := Option.bind_eq_some_iff.mp h
    exact ⟨ns, by rw [intsOf_some e]; rfl, q⟩
  · cases h
theorem glst_inv {g : List Int → Option Ret} {ds : List D} {r : Ret} (h : glst g ds = some r) : ∃ ns, ds = [.list (ns.map .int)] ∧ g ns = some r := by
  unfold glst at h
  split at h
  · rename_i es
    obtain ⟨ns, e, q⟩ := Option.bind_eq_some_iff.mp h
    exact ⟨ns, by rw [intsOf_some e], q⟩
  · cases h
theorem glsti_inv {g : List Int → Int → Option Ret} {ds : List D} {r : Ret} (h : glsti g ds = some r) : ∃ ns m, ds = [.list (ns.map .int), .int m] ∧ g ns m = some r := by
  unfold glsti at h
  split at h
  · rename_i es m
    obtain ⟨ns, e, q⟩ := Option.bind_eq_some_iff.mp h
    exact ⟨ns, m, by rw [intsOf_some e], q⟩
  · cases h
theorem gint_inv {g : Int → Option Ret} {ds : List D} {r : Ret} (h : gint g ds = some r) : ∃ a, ds = [.int a] ∧ g a = some r := by
  unfold gint at h
  split at h
  · exact ⟨_, rfl, h⟩
  · cases h
theorem gint2_inv {g : Int → Int → Option Ret} {ds : List D} {r : Ret} (h : gint2 g ds = some r) : ∃ a b, ds = [.int a, .int b] ∧ g a b = some r := by
  unfold gint2 at h
  split at h
  · exact ⟨_, _, rfl, h⟩
  · cases h
def phRow : List D → Option Ret := gfrz fun ns => some (.ok true (.list ((rowS ns).map .int)) [])
def phTake : List D → Option Ret := glsti fun xs m => if 0 < m ∧ m.natAbs.log2 < 9000 then some (.ok false (.int (takeS xs m).1) [.list ((takeS xs m).2.map .int)]) else none
def phNum : List D → Option Ret := glst fun xs => some (.ok false (.int (numS xs).1) [.list ((numS xs).2.map .int)])
def phGcd : List D → Option Ret := gint2 fun a b => some (.ok false (.int (Int.gcd a b)) [])
def phWhole : List D → Option Ret := gint fun _ => some (.ok false (.bool true) [])
theorem ok_row {Φ : Env} {ds : List D} {r : Ret} (h : phRow ds = some r) : ∃ n, runFn Φ n F_row ds = some r := by
  obtain ⟨ns, rfl, e⟩ := gfrz_inv h
  exact ⟨0, (run_row Φ ns).trans e⟩
theorem ok_take {Φ : Env} {ds : List D} {r : Ret} (h : phTake ds = some r) : ∃ n, runFn Φ n F_take ds = some r := by
  obtain ⟨xs, m, rfl, e⟩ := glsti_inv h
  split at e
  · rename_i hm
    exact ⟨_, (run_take Φ xs m (by omega) hm.2).trans e⟩
  · cases e
theorem ok_number {Φ : Env} {t : Nat} (T : TakeOk Φ t) {ds : List D} {r : Ret} (h : phNum ds = some r) : ∃ n, runFn Φ n (F_number t) ds = some r := by
  obtain ⟨xs, rfl, e⟩ := glst_inv h
  exact ⟨0, (run_number Φ t T xs).trans e⟩
theorem ok_divisor {Φ : Env} {ds : List D} {r : Ret} (h : phGcd ds = some r) : ∃ n, runFn Φ n F_divisor ds = some r := by
  obtain ⟨a, b, rfl, e⟩ := gint2_inv h
  exact ⟨_, (run_divisor Φ a b).trans e⟩
theorem ok_gcd {Φ : Env} {ds : List D} {r : Ret} (h : phGcd ds = some r) : ∃ n, runFn Φ n F_gcd ds = some r := by
  obtain ⟨a, b, rfl, e⟩ := gint2_inv h
  exact ⟨_, (run_gcd Φ a b).trans e⟩
theorem ok_whole {Φ : Env} {ds : List D} {r : Ret} (h : phWhole ds = some r) : ∃ n, runFn Φ n F_whole ds = some r := by
  obtain ⟨a, rfl, e⟩ := gint_inv h
  exact ⟨0, (run_whole Φ a).trans e⟩
theorem mkTake {Φ : Env} {t : Nat} (h : Φ.fn t = phTake) (m : Φ.mask t = [true, false]) : TakeOk Φ t := ⟨fun xs m h0 h1 => by rw [h, phTake, glsti_at, if_pos ⟨h0, h1⟩], m⟩
theorem mkNum {Φ : Env} {t : Nat} (h : Φ.fn t = phNum) (m : Φ.mask t = [true]) : NumOk Φ t := ⟨fun xs => by rw [h, phNum, glst_at], m⟩
theorem mkRow {Φ : Env} {t : Nat} (h : Φ.fn t = phRow) (m : Φ.mask t = [false]) : RowOk Φ t := ⟨fun xs => by rw [h, phRow, gfrz_at], m⟩
theorem mkGcd {Φ : Env} {t : Nat} (h : Φ.fn t = phGcd) (m : Φ.mask t = [false, false]) : GcdOk Φ t := ⟨fun a b => by rw [h]; rfl, m⟩
def phLaw : List D → Option Ret := gfrz fun _ => some (.ok false (.bool true) [])

theorem evAnd_t {Φ : Env} {e f : E} {es : Es} {s s1 : Sl} (h : ev Φ e s = .ok (.dt (.bool true)) s1) : evAnd Φ (.cons e (.cons f es)) s = evAnd Φ (.cons f es) s1 := by
  rw [evAnd]
  · rw [h]
  · intro z; cases z
theorem evAnd_1 {Φ : Env} {e : E} {s s1 : Sl} {b : Bool} (h : ev Φ e s = .ok (.dt (.bool b)) s1) : evAnd Φ (.cons e .nil) s = .ok (.dt (.bool b)) s1 := by
  rw [evAnd, h]
theorem ev_cmp {Φ : Env} {op : COp} {a b : E} {s s1 s2 : Sl} {x y : Vl} {dx dy : D} {r : Bool} (ha : ev Φ a s = .ok x s1) (hb : ev Φ b s1 = .ok y s2) (gx : x.get s2 = some dx) (gy : y.get s2 = some dy) (hi : cmpD op dx dy = some r) : ev Φ (.cmp op a b) s = .ok (.dt (.bool r)) s2 := by
  rw [ev, ha]
  simp [hb, gx, gy, hi, ofO]
theorem ev_abs {Φ : Env} {e : E} {s : Sl} {i : Int} (h : ev Φ e s = .ok (.dt (.int i)) s) : ev Φ (.blt .abs (.cons e .nil)) s = .ok (.dt (.int i.natAbs)) s := by
  rw [ev, evs_cons h evs_nil]
  simp [gets, Vl.get, bltD, ofO, abs_nat]
theorem ret_dt {Φ : Env} {n : Nat} {e : E} {s s1 : Sl} {d : D} (h : ev Φ e s = .ok (.dt d) s1) : run Φ n (.ret e) s = .ok (.rt false d) s1 := by
  rw [run, h]
  rfl
theorem ev_and {Φ : Env} {es : Es} {s : Sl} {r : R Vl} (h : evAnd Φ es s = r) : ev Φ (.and es) s = r := by rw [ev, h]

theorem run_for {Φ : Env} {n : Nat} {t : Tg} {it : It} {b : Ss} {s s1 : Sl} {ds : List D} (h : evIt Φ it s = .ok ds s1) : run Φ n (.for_ t it b) s = forGo t (fun s => runs Φ n b s) ds s1 := by rw [run, h]
end Mi

/-! MiM: fractions: lowest terms. -/
namespace Mi
open PySem
theorem ev_take' {Φ : Env} {t i : Nat} {e : E} {p q : Bool} {s s' : Sl} {xs : List Int} {ys : D} {m : Int} (T : TakeOk Φ t) (h0 : s[i]? = some (.own q ys)) (he : ev Φ e s = .ok (.dt (.int m)) s') (h : s'[i]? = some (.own p (.list (xs.map .int)))) (hm : 0 < m) (h1 : m.natAbs.log2 < 9000) :
    ev Φ (.call t (.cons (.var i) (.cons e .nil)) []) s = .ok (.dt (.int (takeS xs m).1)) (s'.set i (.own p (.list ((takeS xs m).2.map .int)))) := by
  simp [ev, evs, h, h0, he, T.mask, escM, esc, mskOk, brs, gets, Vl.get, T.fn xs m hm h1, backL, vlOf]
def gcdL (g : Nat) : List Int → Nat
  | [] => g
  | n :: ns => gcdL (Int.gcd g n) ns
def pl : Slot → Bool
  | .no => true
  | .val _ => true
  | _ => false
theorem fre_pl {x : Slot} (h : pl x = true) : fre x = true := by cases x <;> first | rfl | cases h
def LowB (t : Nat) : Ss := .cons (.asg (.nm 1) (.call t (.cons (.var 1) (.cons (.var 2) .nil)) [])) .nil
theorem low_loop {Φ : Env} {t n : Nat} (T : GcdOk Φ t) (X : D) : ∀ (ns : List Int) (g : Nat) (x2 : Slot), pl x2 = true → ∃ y2, pl y2 = true ∧ forGo (.nm 2) (fun s => runs Φ n (LowB t) s) (ns.map .int) [.val X, .val (.int g), x2] = .ok .nx [.val X, .val (.int (gcdL g ns)), y2]
  | [], g, x2, h => ⟨x2, h, by rw [List.map_nil, forGo, gcdL]⟩
  | k :: ns, g, x2, h => by
    obtain ⟨y2, hy, e⟩ := low_loop (n := n) T X ns (Int.gcd g k) (.val (.int k)) rfl
    refine ⟨y2, hy, ?_⟩
    have c2 : ∀ {s : Sl}, s[2]? = some x2 → canSet s 2 = true := fun q => canSet_fre q (fre_pl h)
    have bd : bindD (.nm 2) (.int k) [.val X, .val (.int g), x2] = some [.val X, .val (.int g), .val (.int k)] := by simp [bindD, c2]
    have one : runs Φ n (LowB t) [.val X, .val (.int g), .val (.int k)] = .ok .nx [.val X, .val (.int (Int.gcd g k)), .val (.int k)] := (runs_nx (asg_nm (ev_gcd T (ev_vi rfl) (ev_vi rfl)) rfl)).trans rfl
    rw [List.map_cons, forGo, bd]
    simp only [one]
    exact e
theorem lcGo_step {vs : List Nat} {bd : D → Sl → Option Sl} {tst : Sl → R Bool} {el : Sl → R Vl} {d d' : D} {ds acc : List D} {s s1 s2 s3 s4 : Sl} {v : Vl} (hb : bd d (wipeS s vs) = some s1) (ht : tst s1 = .ok true s2) (he : el s2 = .ok v s3) (hesc : esc s3 v = some (d', s4)) (hl : acc.length < sizeLine) :
    lcGo vs bd tst el (d :: ds) acc s = lcGo vs bd tst el ds (acc ++ [d']) (rstS s s4 vs) := by
  rw [lcGo, hb]
  simp only [ht, he, hesc, decide_eq_true hl, if_true]
theorem low_lc {Φ : Env} (X : D) (g : Int) (hg : divB g = true) (y2 : Slot) : ∀ (ns : List Int) (acc : List D), acc.length + ns.length ≤ 1000 →
    lcGo [2] (bindD (.nm 2)) (fun s => evC Φ .no s) (fun s => ev Φ (.bin .fdiv (.var 2) (.var 1)) s) (ns.map .int) acc [.val X, .val (.int g), y2] = .ok (acc ++ (ns.map fun n => n.fdiv g).map .int) [.val X, .val (.int g), y2]
  | [], acc, h => by simp [lcGo]
  | n :: ns, acc, h => by
    have hs : (1000 : Nat) < sizeLine := by decide
    have hl : acc.length < sizeLine := by simp at h; omega
    have e1 : ev Φ (.bin .fdiv (.var 2) (.var 1)) [.val X, .val (.int g), .val (.int n)] = .ok (.dt (.int (n.fdiv g))) [.val X, .val (.int g), .val (.int n)] := ev_bin (ev_vi rfl) (ev_vi rfl) rfl rfl (by simp [binD, hg])
    have ih := low_lc (Φ := Φ) X g hg y2 ns (acc ++ [.int (n.fdiv g)]) (by simp at h ⊢; omega)
    rw [List.map_cons, lcGo_step (s1 := [.val X, .val (.int g), .val (.int n)]) rfl (by rw [evC]) e1 rfl hl]
    refine Eq.trans ih ?_
    simp
def LowE (t : Nat) (c : COp) (k : Int) : Ss := (.cons (.asg (.nm 1) (.int 0)) (.cons (.for_ (.nm 2) (.e (.var 0)) (LowB t)) (.cons (.ifs (.cmp c (.var 1) (.int k)) (.cons (.ret (.blt .tuple (.cons (.var 0) .nil))) .nil) .nil) (.cons (.ret (.blt .tuple (.cons (.lc (.bin .fdiv (.var 2) (.var 1)) (.nm 2) (.e (.var 0)) .no [2]) .nil))) .nil))))
def F_low (t : Nat) (c : COp) (k : Int) : Fn := { np := 1, ns := 3, mask := [false], body := LowE t c k }
/-- a list or a tuple of whole numbers -/
def Seq (X : D) (ns : List Int) : Prop := X = .tuple (ns.map .int) ∨ X = .list (ns.map .int)
theorem Seq.items {X : D} {ns : List Int} (h : Seq X ns) : itemsOf X = some (ns.map .int) := by rcases h with rfl | rfl <;> rfl
theorem Seq.tup {X : D} {ns : List Int} (h : Seq X ns) : bltD .tuple [X] = some (.dt (.tuple (ns.map .int))) := by rcases h with rfl | rfl <;> rfl
theorem run_low {Φ : Env} {t : Nat} {c : COp} {k : Int} {b : Bool} (T : GcdOk Φ t) {X : D} {ns : List Int} (hX : Seq X ns) (hn : ns.length ≤ 1000) (hc : cmpD c (.int (gcdL 0 ns)) (.int k) = some b) (hg : b = false → divB (gcdL 0 ns) = true) :
    runFn Φ 0 (F_low t c k) [X] = some (.ok false (.tuple ((if b then ns else ns.map fun n => n.fdiv (gcdL 0 ns)).map .int)) []) := by
  obtain ⟨y2, hy, e⟩ := low_loop (n := 0) T X ns 0 .no rfl
  have it : ∀ s : Sl, s[0]? = some (.val X) → evIt Φ (.e (.var 0)) s = .ok (ns.map .int) s := fun s hs => by
    rw [evIt, ev_vi hs]
    simp [esc, hX.items, ofO]
  have e1 : run Φ 0 (.asg (.nm 1) (.int 0)) [.val X, .no, .no] = .ok .nx [.val X, .val (.int 0), .no] := asg_nm ev_ii rfl
  have e2 : run Φ 0 (.for_ (.nm 2) (.e (.var 0)) (LowB t)) [.val X, .val (.int 0), .no] = .ok .nx [.val X, .val (.int (gcdL 0 ns)), y2] := (run_for (it _ rfl)).trans e
  have e3 : ev Φ (.cmp c (.var 1) (.int k)) [.val X, .val (.int (gcdL 0 ns)), y2] = .ok (.dt (.bool b)) [.val X, .val (.int (gcdL 0 ns)), y2] := ev_cmp (ev_vi rfl) ev_ii rfl rfl hc
  refine (runFn_rt (f := F_low t c k) (s := [.val X, .val (.int (gcdL 0 ns)), y2]) ((runs_nx e1).trans ((runs_nx e2).trans ?_))).trans rfl
  cases b with
  | true =>
    refine runs_rt ((ifs_true e3).trans (runs_rt (ret_dt ?_)))
    rw [ev, evs_cons (ev_vi rfl) evs_nil]
    simp [gets, Vl.get, hX.tup, ofO]
  | false =>
    refine (runs_nx ((ifs_false e3).trans rfl)).trans (runs_rt (ret_dt ?_))
    have cl : clean [.val X, .val (.int (gcdL 0 ns)), y2] [2] = true := by cases y2 <;> first | rfl | cases hy
    have l : ev Φ (.lc (.bin .fdiv (.var 2) (.var 1)) (.nm 2) (.e (.var 0)) .no [2]) [.val X, .val (.int (gcdL 0 ns)), y2] = .ok (.nw (.list ((ns.map fun n => n.fdiv (gcdL 0 ns)).map .int))) [.val X, .val (.int (gcdL 0 ns)), y2] := by
      rw [ev, it _ rfl]
      simp only [cl, if_true, low_lc X _ (hg rfl) y2 ns [] (by simpa using hn), List.nil_append]
    rw [ev, evs_cons l evs_nil]
    simp [gets, Vl.get, bltD, ofO]
/-! pairs -/
def fr (t b : Int) : Int × Int := if b < 0 then ((-t) / (Int.gcd t b : Int), (-b) / (Int.gcd t b : Int)) else (t / (Int.gcd t b : Int), b / (Int.gcd t b : Int))
theorem fr_pos {t b : Int} (h : 0 < b) : fr t b = (t / (Int.gcd t b : Int), b / (Int.gcd t b : Int)) := by unfold fr; rw [if_neg (by omega)]
theorem gcd_posR {t b : Int} (h : 0 < b) : 0 < (Int.gcd t b : Int) := by
  have : 0 < Int.gcd t b := Int.gcd_pos_of_ne_zero_right _ (by omega)
  omega
theorem fr_mul {t b k : Int} (h : 0 < b) (hk : 0 < k) : fr (t * k) (b * k) = fr t b := by
  rw [fr_pos h, fr_pos (Int.mul_pos h hk)]
  have e : (Int.gcd (t * k) (b * k) : Int) = (Int.gcd t b : Int) * k := by
    rw [Int.gcd_mul_right, Int.natCast_mul]
    congr 1
    omega
  rw [e, Int.mul_ediv_mul_of_pos_left _ _ hk, Int.mul_ediv_mul_of_pos_left _ _ hk]
theorem fr_eq {t b t' b' : Int} (h : 0 < b) (h' : 0 < b') (e : t * b' = t' * b) : fr t b = fr t' b' := by
  rw [← fr_mul (t := t) h h', ← fr_mul (t := t') h' h, e, Int.mul_comm b b']
theorem fr_cross {t b : Int} (h : 0 < b) : (fr t b).1 * b = t * (fr t b).2 ∧ 0 < (fr t b).2 ∧ (fr t b).2 ≤ b ∧ (fr t b).1.natAbs ≤ t.natAbs ∧ Int.gcd (fr t b).1 (fr t b).2 = 1 ∧ (0 < t → 0 < (fr t b).1) := by
  have hg := gcd_posR (t := t) h
  have ha : t / (Int.gcd t b : Int) * (Int.gcd t b : Int) = t := Int.ediv_mul_cancel (Int.gcd_dvd_left ..)
  have hc : b / (Int.gcd t b : Int) * (Int.gcd t b : Int) = b := Int.ediv_mul_cancel (Int.gcd_dvd_right ..)
  have h1 : Int.gcd (t / (Int.gcd t b : Int)) (b / (Int.gcd t b : Int)) = 1 := Int.gcd_ediv_gcd_ediv_gcd (by omega)
  rw [fr_pos h]
  simp only
  generalize ht : t / (Int.gcd t b : Int) = a at *
  generalize hb : b / (Int.gcd t b : Int) = c at *
  generalize (Int.gcd t b : Int) = g at *
  have hc0 : 0 < c := by
    rcases Int.lt_trichotomy 0 c with q | q | q
    · exact q
    · subst q; simp at hc; omega
    · have := Int.mul_neg_of_neg_of_pos q hg; omega
  refine ⟨by rw [← hc, ← ha, Int.mul_assoc a g c, Int.mul_comm g c, ← Int.mul_assoc], hc0, ?_, ?_, h1, fun ht0 => ?_⟩
  · rw [← hc]
    have : c * 1 ≤ c * g := Int.mul_le_mul_of_nonneg_left (by omega) (by omega)
    omega
  · rw [← ha, Int.natAbs_mul]
    have : 1 ≤ g.natAbs := by omega
    exact Nat.le_mul_of_pos_right _ this
  · rcases Int.lt_trichotomy 0 a with q | q | q
    · exact q
    · subst q; simp at ha; omega
    · have := Int.mul_neg_of_neg_of_pos q hg; omega
theorem fr_low {a b : Int} (h : 0 < b) (g : Int.gcd a b = 1) : fr a b = (a, b) := by
  rw [fr_pos h, g]
  simp
/-- what both lowest-makers tell of a pair -/
theorem low_pair {t b : Int} (h : 0 < b) : [t, b].map (fun n => n.fdiv (gcdL 0 [t, b])) = [(fr t b).1, (fr t b).2] := by
  have hg := gcd_posR (t := t) h
  have e : gcdL 0 [t, b] = Int.gcd t b := by
    simp only [gcdL]
    show Int.gcd (Int.gcd 0 t : Int) b = _
    rw [Int.gcd_zero_left]
    simp [Int.gcd]
  rw [e, fr_pos h]
  simp only [List.map_cons, List.map_nil]
  rw [Int.fdiv_eq_ediv_of_nonneg _ (by omega), Int.fdiv_eq_ediv_of_nonneg _ (by omega)]

/-! pairs of whole numbers as values -/
def prD (p : Int × Int) : D := .tuple [.int p.1, .int p.2]
def smal (i : Int) : Prop := i.natAbs.log2 < 8900
instance (i : Int) : Decidable (smal i) := inferInstanceAs (Decidable (i.natAbs.log2 < 8900))
theorem smal_of {i : Int} {k : Nat} (h : i.natAbs < 2 ^ (k + 1)) (hk : k < 8900) : smal i := Nat.lt_of_le_of_lt (log2_le h) hk
theorem smal_lt {i : Int} (h : smal i) : i.natAbs < 2 ^ 8900 := by
  by_cases h0 : i.natAbs = 0
  · rw [h0]; exact Nat.two_pow_pos _
  · exact (Nat.log2_lt h0).mp h
theorem smal_le {i j : Int} (h : smal j) (hi : i.natAbs ≤ j.natAbs) : smal i := Nat.lt_of_le_of_lt (log2_le (k := 8899) (Nat.lt_of_le_of_lt hi (smal_lt h))) (by decide)
theorem smal_mulB {i j : Int} (h : smal i) (h' : smal j) : mulB i j = true := by
  have : i.natAbs.log2 + j.natAbs.log2 < 1000000 := by unfold smal at h h'; omega
  simp [mulB, this]
theorem divB_pair {t b : Int} (h : 0 < b) (hs : smal b) : divB (gcdL 0 [t, b]) = true := by
  have e : gcdL 0 [t, b] = Int.gcd t b := by
    simp only [gcdL]
    show Int.gcd (Int.gcd 0 t : Int) b = _
    rw [Int.gcd_zero_left]
    simp [Int.gcd]
  have hg := gcd_posR (t := t) h
  rw [e]
  have : Int.gcd t b ≤ b.natAbs := Nat.le_of_dvd (by omega) (Nat.gcd_dvd_right _ _)
  have h2 : smal (Int.gcd t b : Int) := smal_le hs (by simpa using this)
  unfold smal at h2
  have h3 : (Int.gcd t b : Int).natAbs.log2 < 9000 := by omega
  have h4 : (Int.gcd t b : Int) ≠ 0 := by omega
  simp only [divB, h3, h4, ne_eq, not_false_eq_true, decide_true, Bool.and_self]
theorem gcdL_pair (t b : Int) : gcdL 0 [t, b] = Int.gcd t b := by
  simp only [gcdL]
  show Int.gcd (Int.gcd 0 t : Int) b = _
  rw [Int.gcd_zero_left]
  simp [Int.gcd]
/-- lowest: of a pair with a bottom above nought -/
theorem run_lowest2 {Φ : Env} {t : Nat} (T : GcdOk Φ t) {X : D} {a b : Int} (hX : Seq X [a, b]) (h : 0 < b) (hs : smal b) : runFn Φ 0 (F_low t .lt 2) [X] = some (.ok false (prD (fr a b)) []) := by
  have hg := gcd_posR (t := a) h
  rw [run_low (b := decide ((Int.gcd a b : Int) < 2)) T hX (by simp) (by rw [gcdL_pair]; rfl) (fun _ => divB_pair h hs)]
  by_cases h2 : (Int.gcd a b : Int) < 2
  · have e1 : Int.gcd a b = 1 := by omega
    rw [decide_eq_true h2, if_pos rfl, fr_low h e1]
    rfl
  · rw [decide_eq_false h2, if_neg Bool.false_ne_true, low_pair h]
    rfl
theorem run_lawlow2 {Φ : Env} {t : Nat} (T : GcdOk Φ t) {X : D} {a b : Int} (hX : Seq X [a, b]) (h : 0 < b) (hs : smal b) : runFn Φ 0 (F_low t .eq 0) [X] = some (.ok false (prD (fr a b)) []) := by
  have hg := gcd_posR (t := a) h
  rw [run_low (b := false) T hX (by simp) (by rw [gcdL_pair]; simp [cmpD]; omega) (fun _ => divB_pair h hs), if_neg Bool.false_ne_true, low_pair h]
  rfl
/-- two numbers in a list or a tuple -/
def gpair (g : Int → Int → Option Ret) : List D → Option Ret
  | [.tuple [.int a, .int b]] => g a b
  | [.list [.int a, .int b]] => g a b
  | _ => none
theorem gpair_inv {g : Int → Int → Option Ret} {ds : List D} {r : Ret} (h : gpair g ds = some r) : ∃ X a b, Seq X [a, b] ∧ ds = [X] ∧ g a b = some r := by
  unfold gpair at h
  split at h
  · exact ⟨_, _, _, .inl rfl, rfl, h⟩
  · exact ⟨_, _, _, .inr rfl, rfl, h⟩
  · cases h
def phLow2 : List D → Option Ret := gpair fun a b => if 0 < b ∧ smal b then some (.ok false (prD (fr a b)) []) else none
theorem ok_lowest {Φ : Env} {t : Nat} (T : GcdOk Φ t) {ds : List D} {r : Ret} (h : phLow2 ds = some r) : ∃ n, runFn Φ n (F_low t .lt 2) ds = some r := by
  obtain ⟨X, a, b, hX, rfl, e⟩ := gpair_inv h
  split at e
  · rename_i hb
    exact ⟨0, (run_lowest2 T hX hb.1 hb.2).trans e⟩
  · cases e
theorem ok_lawlow {Φ : Env} {t : Nat} (T : GcdOk Φ t) {ds : List D} {r : Ret} (h : phLow2 ds = some r) : ∃ n, runFn Φ n (F_low t .eq 0) ds = some r := by
  obtain ⟨X, a, b, hX, rfl, e⟩ := gpair_inv h
  split at e
  · rename_i hb
    exact ⟨0, (run_lawlow2 T hX hb.1 hb.2).trans e⟩
  · cases e
/-- fraction(top, bottom), bottom above nought -/
def phFr : List D → Option Ret := gint2 fun a b => if 0 < b ∧ smal b then some (.ok false (prD (fr a b)) []) else none
structure FrOk (Φ : Env) (t : Nat) : Prop where
  fn : ∀ a b : Int, 0 < b → smal b → Φ.fn t [.int a, .int b] = some (.ok false (prD (fr a b)) [])
  mask : Φ.mask t = [false, false]
theorem mkFr {Φ : Env} {t : Nat} (h : Φ.fn t = phFr) (m : Φ.mask t = [false, false]) : FrOk Φ t := ⟨fun a b h0 h1 => by rw [h]; show (if _ then _ else _) = _; rw [if_pos ⟨h0, h1⟩], m⟩
structure LowOk (Φ : Env) (t : Nat) : Prop where
  tup : ∀ a b : Int, 0 < b → smal b → Φ.fn t [.tuple [.int a, .int b]] = some (.ok false (prD (fr a b)) [])
  lst : ∀ a b : Int, 0 < b → smal b → Φ.fn t [.list [.int a, .int b]] = some (.ok false (prD (fr a b)) [])
  mask : Φ.mask t = [false]
theorem mkLow {Φ : Env} {t : Nat} (h : Φ.fn t = phLow2) (m : Φ.mask t = [false]) : LowOk Φ t :=
  ⟨fun a b h0 h1 => by rw [h]; show (if _ then _ else _) = _; rw [if_pos ⟨h0, h1⟩], fun a b h0 h1 => by rw [h]; show (if _ then _ else _) = _; rw [if_pos ⟨h0, h1⟩], m⟩
theorem ev_fr {Φ : Env} {t : Nat} {e f : E} {s s1 s2 : Sl} {a b : Int} (T : FrOk Φ t) (he : ev Φ e s = .ok (.dt (.int a)) s1) (hf : ev Φ f s1 = .ok (.dt (.int b)) s2) (h0 : 0 < b) (h1 : smal b) :
    ev Φ (.call t (.cons e (.cons f .nil)) []) s = .ok (.dt (prD (fr a b))) s2 := by
  simp [ev, evs, he, hf, T.mask, escM, esc, mskOk, brs, gets, Vl.get, T.fn a b h0 h1, backL, vlOf]
def F_fraction (t : Nat) : Fn := { np := 2, ns := 2, mask := [false, false], body := (.cons (.ifs (.cmp .eq (.var 1) (.int 0)) (.cons .stuck .nil) .nil) (.cons (.ifs (.cmp .gt (.var 1) (.int 0)) (.cons (.ret (.call t (.cons (.tup (.cons (.var 0) (.cons (.var 1) .nil))) .nil) [])) .nil) .nil) (.cons (.ret (.call t (.cons (.tup (.cons (.neg (.var 0)) (.cons (.neg (.var 1)) .nil))) .nil) [])) .nil))) }
theorem ok_fraction {Φ : Env} {t : Nat} (T : LowOk Φ t) {ds : List D} {r : Ret} (h : phFr ds = some r) : ∃ n, runFn Φ n (F_fraction t) ds = some r := by
  obtain ⟨a, b, rfl, e⟩ := gint2_inv h
  split at e
  · rename_i hb
    refine ⟨0, Eq.trans ?_ e⟩
    have h0 : ¬ b = 0 := by omega
    have h1 : 0 < b := hb.1
    have hz : 2 ≤ sizeLine := by decide
    simp [hz, runFn, F_fraction, start, runs, run, ev, evs, cmpD, ofO, Vl.get, h0, h1, escs, esc, sizeB, T.mask, escM, mskOk, brs, gets, T.tup a b hb.1 hb.2, backL, vlOf, retV, outsOf]
  · cases e
def F_frac (t : Nat) : Fn := { np := 2, ns := 2, mask := [false, false], body := (.cons (.ifs (.cmp .lt (.var 1) (.int 0)) (.cons (.ret (.call t (.cons (.lst (.cons (.bin .sub (.int 0) (.var 0)) (.cons (.bin .sub (.int 0) (.var 1)) .nil))) .nil) [])) .nil) .nil) (.cons (.ret (.call t (.cons (.lst (.cons (.var 0) (.cons (.var 1) .nil))) .nil) [])) .nil)) }
theorem ok_frac {Φ : Env} {t : Nat} (T : LowOk Φ t) {ds : List D} {r : Ret} (h : phFr ds = some r) : ∃ n, runFn Φ n (F_frac t) ds = some r := by
  obtain ⟨a, b, rfl, e⟩ := gint2_inv h
  split at e
  · rename_i hb
    refine ⟨0, Eq.trans ?_ e⟩
    have h0 : ¬ b < 0 := by omega
    have hz : 2 ≤ sizeLine := by decide
    simp [hz, runFn, F_frac, start, runs, run, ev, evs, cmpD, ofO, Vl.get, h0, escs, esc, sizeB, T.mask, escM, mskOk, brs, gets, T.lst a b hb.1 hb.2, backL, vlOf, retV, outsOf]
  · cases e

theorem shaped_ints (ns : List Int) : SeqAt.shaped (.tuple (ns.map PyData.int)) = true := by
  have h1 : ∀ ns : List Int, PyData.canLayAll0 (ns.map PyData.int) = true := fun ns => by
    induction ns with
    | nil => rfl
    | cons n ns ih => simp [PyData.canLayAll0, PyData.canLay0, ih]
  have h2 : ∀ ns : List Int, PyData.depthAll (ns.map PyData.int) = 0 := fun ns => by
    induction ns with
    | nil => rfl
    | cons n ns ih => simp [PyData.depthAll, PyData.depth, ih]
  simp [SeqAt.shaped, PyData.canLay0, PyData.depth, h1, h2]
theorem eqv_ints : ∀ as bs : List Int, PyData.eqvAll (as.map PyData.int) (bs.map PyData.int) = decide (as = bs)
  | [], [] => rfl
  | [], _ :: _ => rfl
  | _ :: _, [] => rfl
  | a :: as, b :: bs => by
    have e : (PyData.int a).eqv (.int b) = decide (a = b) := by
      show (a == b) = decide (a = b)
      by_cases h : a = b <;> simp [h]
    simp only [List.map_cons, PyData.eqvAll, e, eqv_ints as bs]
    by_cases h1 : a = b <;> by_cases h2 : as = bs <;> simp [h1, h2]
theorem eqB_ints (as bs : List Int) : eqB (.tuple (as.map PyData.int)) (.tuple (bs.map PyData.int)) = some (decide (as = bs)) := by
  unfold eqB
  rw [shaped_ints, shaped_ints]
  show some (PyData.eqvAll _ _) = _
  rw [eqv_ints]
structure WholeOk (Φ : Env) (t : Nat) : Prop where
  fn : ∀ i : Int, Φ.fn t [.int i] = some (.ok false (.bool true) [])
  mask : Φ.mask t = [false]
theorem mkWhole {Φ : Env} {t : Nat} (h : Φ.fn t = phWhole) (m : Φ.mask t = [false]) : WholeOk Φ t := ⟨fun a => by rw [h]; rfl, m⟩
def gtn (g : List Int → Int → Option Ret) : List D → Option Ret
  | [.tuple ds, .int n] => (intsOf ds).bind fun ns => g ns n
  | _ => none
theorem gtn_inv {g : List Int → Int → Option Ret} {ds : List D} {r : Ret} (h : gtn g ds = some r) : ∃ ns n, ds = [.tuple (ns.map .int), .int n] ∧ g ns n = some r := by
  unfold gtn at h
  split at h
  · obtain ⟨ns, e, q⟩ := Option.bind_eq_some_iff.mp h
    exact ⟨ns, _, by rw [intsOf_some e], q⟩
  · cases h
def gtt (g : List Int → List Int → Option Ret) : List D → Option Ret
  | [.tuple ds, .tuple es] => (intsOf ds).bind fun ns => (intsOf es).bind fun ms => g ns ms
  | _ => none
theorem gtt_inv {g : List Int → List Int → Option Ret} {ds : List D} {r : Ret} (h : gtt g ds = some r) : ∃ ns ms, ds = [.tuple (ns.map .int), .tuple (ms.map .int)] ∧ g ns ms = some r := by
  unfold gtt at h
  split at h
  · obtain ⟨ns, e, q⟩ := Option.bind_eq_some_iff.mp h
    obtain ⟨ms, e', q'⟩ := Option.bind_eq_some_iff.mp q
    exact ⟨ns, ms, by rw [intsOf_some e, intsOf_some e'], q'⟩
  · cases h
def phWholes : List D → Option Ret := gtn fun ns n => if (ns.length : Int) = n ∧ ns.length ≤ 1000 then some (.ok false (.bool true) []) else none
def phIs : List D → Option Ret := gtt fun ns ms => if ns.length = ms.length ∧ ns.length ≤ 1000 then some (.ok false (.bool (decide (ns = ms))) []) else none
structure WholesOk (Φ : Env) (t : Nat) : Prop where
  fn : ∀ ns : List Int, ns.length ≤ 1000 → Φ.fn t [.tuple (ns.map .int), .int ns.length] = some (.ok false (.bool true) [])
  mask : Φ.mask t = [false, false]
theorem mkWholes {Φ : Env} {t : Nat} (h : Φ.fn t = phWholes) (m : Φ.mask t = [false, false]) : WholesOk Φ t := ⟨fun ns hn => by
  rw [h]
  show (intsOf _).bind _ = _
  rw [intsOf_map]
  show (if _ then _ else _) = _
  rw [if_pos ⟨rfl, hn⟩], m⟩
structure IsOk (Φ : Env) (t : Nat) : Prop where
  fn : ∀ ns ms : List Int, ns.length = ms.length → ns.length ≤ 1000 → Φ.fn t [.tuple (ns.map .int), .tuple (ms.map .int)] = some (.ok false (.bool (decide (ns = ms))) [])
  mask : Φ.mask t = [false, false]
theorem mkIs {Φ : Env} {t : Nat} (h : Φ.fn t = phIs) (m : Φ.mask t = [false, false]) : IsOk Φ t := ⟨fun ns ms h1 hn => by
  rw [h]
  show (intsOf _).bind _ = _
  rw [intsOf_map]
  show (intsOf _).bind _ = _
  rw [intsOf_map]
  show (if _ then _ else _) = _
  rw [if_pos ⟨h1, hn⟩], m⟩
def F_wholes (w : Nat) : Fn := { np := 2, ns := 3, mask := [false, false], body := (.cons (.ifs (.or (.cons (.not (.isT (.var 0) .tuple)) (.cons (.cmp .ne (.blt .len (.cons (.var 0) .nil)) (.var 1)) .nil))) (.cons (.ret (.bl false)) .nil) .nil) (.cons (.ret (.blt .all (.cons (.lc (.call w (.cons (.var 2) .nil) []) (.nm 2) (.e (.var 0)) .no [2]) .nil))) .nil)) }
theorem whole_lc {Φ : Env} {w : Nat} (T : WholeOk Φ w) (X Y : D) : ∀ (ns : List Int) (acc : List D), acc.length + ns.length ≤ 1000 →
    lcGo [2] (bindD (.nm 2)) (fun s => evC Φ .no s) (fun s => ev Φ (.call w (.cons (.var 2) .nil) []) s) (ns.map .int) acc [.val X, .val Y, .no] = .ok (acc ++ ns.map fun _ => .bool true) [.val X, .val Y, .no]
  | [], acc, h => by simp [lcGo]
  | n :: ns, acc, h => by
    have hs : (1000 : Nat) < sizeLine := by decide
    have hl : acc.length < sizeLine := by simp at h; omega
    have e1 : ev Φ (.call w (.cons (.var 2) .nil) []) [.val X, .val Y, .val (.int n)] = .ok (.dt (.bool true)) [.val X, .val Y, .val (.int n)] := by
      simp [ev, evs, T.mask, escM, esc, mskOk, brs, gets, Vl.get, T.fn n, backL, vlOf]
    have ih := whole_lc T X Y ns (acc ++ [.bool true]) (by simp at h ⊢; omega)
    rw [List.map_cons, lcGo_step (s1 := [.val X, .val Y, .val (.int n)]) rfl (by rw [evC]) e1 rfl hl]
    refine Eq.trans ih ?_
    simp
theorem blsOf_true : ∀ ns : List Int, blsOf (ns.map fun _ => PyData.bool true) = some (ns.map fun _ => true)
  | [] => rfl
  | n :: ns => by rw [List.map_cons, blsOf, blsOf_true ns]; rfl
theorem ok_wholes {Φ : Env} {w : Nat} (T : WholeOk Φ w) {ds : List D} {r : Ret} (h : phWholes ds = some r) : ∃ n, runFn Φ n (F_wholes w) ds = some r := by
  obtain ⟨ns, n, rfl, e⟩ := gtn_inv h
  split at e
  · rename_i hb
    refine ⟨0, Eq.trans ?_ e⟩
    obtain ⟨rfl, hn⟩ := hb
    have l : ev Φ (.lc (.call w (.cons (.var 2) .nil) []) (.nm 2) (.e (.var 0)) .no [2]) [.val (.tuple (ns.map .int)), .val (.int ns.length), .no] = .ok (.nw (.list (ns.map fun _ => .bool true))) [.val (.tuple (ns.map .int)), .val (.int ns.length), .no] := by
      have it : evIt Φ (.e (.var 0)) [.val (.tuple (ns.map .int)), .val (.int ns.length), .no] = .ok (ns.map .int) [.val (.tuple (ns.map .int)), .val (.int ns.length), .no] := by
        rw [evIt, ev_vi rfl]
        rfl
      have cl : clean [.val (.tuple (ns.map .int)), .val (.int ns.length), .no] [2] = true := rfl
      rw [ev, it]
      simp only [cl, if_true, whole_lc T _ _ ns [] (by simpa using hn), List.nil_append]
    refine (runFn_rt (f := F_wholes w) (s := [.val (.tuple (ns.map .int)), .val (.int ns.length), .no]) ((runs_nx (s1 := [.val (.tuple (ns.map .int)), .val (.int ns.length), .no]) ?_).trans (runs_rt (ret_dt ?_)))).trans rfl
    · refine (ifs_false (s1 := [.val (.tuple (ns.map .int)), .val (.int ns.length), .no]) ?_).trans rfl
      simp [F_wholes, start, ev, evs, evOr, Vl.get, isTD, ofO, gets, bltD, cmpD]
    · rw [ev, evs_cons l evs_nil]
      simp [gets, Vl.get, bltD, ofO, blsOf_true]
  · cases e
def F_is (w : Nat) : Fn := { np := 2, ns := 2, mask := [false, false], body := (.cons (.ret (.and (.cons (.call w (.cons (.var 0) (.cons (.blt .len (.cons (.var 1) .nil)) .nil)) []) (.cons (.cmp .eq (.var 0) (.var 1)) .nil)))) .nil) }
theorem ok_is {Φ : Env} {w : Nat} (T : WholesOk Φ w) {ds : List D} {r : Ret} (h : phIs ds = some r) : ∃ n, runFn Φ n (F_is w) ds = some r := by
  obtain ⟨ns, ms, rfl, e⟩ := gtt_inv h
  split at e
  · rename_i hb
    refine ⟨0, Eq.trans ?_ e⟩
    have e1 : ev Φ (.call w (.cons (.var 0) (.cons (.blt .len (.cons (.var 1) .nil)) .nil)) []) [.val (.tuple (ns.map .int)), .val (.tuple (ms.map .int))] = .ok (.dt (.bool true)) [.val (.tuple (ns.map .int)), .val (.tuple (ms.map .int))] := by
      have := T.fn ns hb.2
      rw [hb.1] at this
      simp [ev, evs, T.mask, escM, esc, mskOk, brs, gets, Vl.get, bltD, ofO, this, backL, vlOf]
    have e2 := ev_cmp (Φ := Φ) (op := .eq) (ev_vi (s := [.val (.tuple (ns.map .int)), .val (.tuple (ms.map .int))]) (i := 0) rfl) (ev_vi (i := 1) rfl) rfl rfl (eqB_ints ns ms)
    exact (runFn_rt (f := F_is w) (s := [.val (.tuple (ns.map .int)), .val (.tuple (ms.map .int))]) (runs_rt (ret_dt (ev_and ((evAnd_t e1).trans (evAnd_1 e2)))))).trans rfl
  · cases e
theorem ev_is {Φ : Env} {t : Nat} {e f : E} {s s1 s2 : Sl} {a b c d : Int} (T : IsOk Φ t) (he : ev Φ e s = .ok (.dt (prD (a, b))) s1) (hf : ev Φ f s1 = .ok (.dt (prD (c, d))) s2) :
    ev Φ (.call t (.cons e (.cons f .nil)) []) s = .ok (.dt (.bool (decide ((a, b) = (c, d))))) s2 := by
  have := T.fn [a, b] [c, d] rfl (by simp)
  have q : decide ([a, b] = [c, d]) = decide ((a, b) = (c, d)) := by simp
  rw [q] at this
  simp [ev, evs, he, hf, T.mask, escM, esc, mskOk, brs, gets, Vl.get, prD, backL, vlOf]
  simp at this
  simp [this, backL]

def F_shared (d f : Nat) : Fn := { np := 2, ns := 2, mask := [false, false], body := (.cons (.ret (.call f (.cons (.call d (.cons (.bin .mul (.ix (.var 0) (.int 0)) (.ix (.var 1) (.int 1))) (.cons (.bin .mul (.ix (.var 1) (.int 0)) (.ix (.var 0) (.int 1))) .nil)) []) (.cons (.bin .mul (.ix (.var 0) (.int 1)) (.ix (.var 1) (.int 1))) .nil)) [])) .nil) }
def gpp (g : Int × Int → Int × Int → Option Ret) : List D → Option Ret
  | [.tuple [.int a, .int b], .tuple [.int c, .int e]] => g (a, b) (c, e)
  | _ => none
theorem gpp_inv {g : Int × Int → Int × Int → Option Ret} {ds : List D} {r : Ret} (h : gpp g ds = some r) : ∃ p q, ds = [prD p, prD q] ∧ g p q = some r := by
  unfold gpp at h
  split at h
  · exact ⟨(_, _), (_, _), rfl, h⟩
  · cases h
def shS (p q : Int × Int) : Int × Int := fr (Int.gcd (p.1 * q.2) (q.1 * p.2)) (p.2 * q.2)
def okP (p : Int × Int) : Prop := 0 < p.2 ∧ p.1.natAbs < 2 ^ 250 ∧ p.2.natAbs < 2 ^ 250
instance (p : Int × Int) : Decidable (okP p) := inferInstanceAs (Decidable (_ ∧ _ ∧ _))
theorem smal250 {i : Int} (h : i.natAbs < 2 ^ 250) : smal i := smal_of (k := 249) h (by decide)
theorem smal_mul {i j : Int} (h : i.natAbs < 2 ^ 250) (h' : j.natAbs < 2 ^ 250) : smal (i * j) := by
  refine smal_of (k := 499) ?_ (by decide)
  rw [Int.natAbs_mul]
  calc i.natAbs * j.natAbs < 2 ^ 250 * 2 ^ 250 := Nat.mul_lt_mul'' h h'
    _ = 2 ^ 500 := by rw [← Nat.pow_add]
def phShared : List D → Option Ret := gpp fun p q => if okP p ∧ okP q then some (.ok false (prD (shS p q)) []) else none
theorem ev_ix0 {Φ : Env} {s : Sl} {i : Nat} {p : Int × Int} (h : s[i]? = some (.val (prD p))) : ev Φ (.ix (.var i) (.int 0)) s = .ok (.dt (.int p.1)) s := ev_ix (ev_vi h) ev_ii rfl rfl rfl
theorem ev_ix1 {Φ : Env} {s : Sl} {i : Nat} {p : Int × Int} (h : s[i]? = some (.val (prD p))) : ev Φ (.ix (.var i) (.int 1)) s = .ok (.dt (.int p.2)) s := ev_ix (ev_vi h) ev_ii rfl rfl rfl
theorem ev_mul {Φ : Env} {a b : E} {s s1 s2 : Sl} {i j : Int} (ha : ev Φ a s = .ok (.dt (.int i)) s1) (hb : ev Φ b s1 = .ok (.dt (.int j)) s2) (h : mulB i j = true) : ev Φ (.bin .mul a b) s = .ok (.dt (.int (i * j))) s2 := ev_bin ha hb rfl rfl (by simp [binD, h])
theorem ok_shared {Φ : Env} {d f : Nat} (G : GcdOk Φ d) (F : FrOk Φ f) {ds : List D} {r : Ret} (h : phShared ds = some r) : ∃ n, runFn Φ n (F_shared d f) ds = some r := by
  obtain ⟨p, q, rfl, e⟩ := gpp_inv h
  split at e
  · rename_i hb
    refine ⟨0, Eq.trans ?_ e⟩
    obtain ⟨⟨p0, p1, p2⟩, q0, q1, q2⟩ := hb
    have m1 := ev_mul (Φ := Φ) (ev_ix0 (s := [.val (prD p), .val (prD q)]) (i := 0) rfl) (ev_ix1 (i := 1) rfl) (smal_mulB (smal250 p1) (smal250 q2))
    have m2 := ev_mul (Φ := Φ) (ev_ix0 (s := [.val (prD p), .val (prD q)]) (i := 1) rfl) (ev_ix1 (i := 0) rfl) (smal_mulB (smal250 q1) (smal250 p2))
    have m3 := ev_mul (Φ := Φ) (ev_ix1 (s := [.val (prD p), .val (prD q)]) (i := 0) rfl) (ev_ix1 (i := 1) rfl) (smal_mulB (smal250 p2) (smal250 q2))
    have rr := runs_rt (n := 0) (ss := .nil) (ret_dt (ev_fr F (ev_gcd G m1 m2) m3 (Int.mul_pos p0 q0) (smal_mul p2 q2)))
    exact (runFn_rt (f := F_shared d f) (ds := [prD p, prD q]) (s := [.val (prD p), .val (prD q)]) rr).trans rfl
  · cases e
structure SharedOk (Φ : Env) (t : Nat) : Prop where
  fn : ∀ p q : Int × Int, okP p → okP q → Φ.fn t [prD p, prD q] = some (.ok false (prD (shS p q)) [])
  mask : Φ.mask t = [false, false]
theorem mkShared {Φ : Env} {t : Nat} (h : Φ.fn t = phShared) (m : Φ.mask t = [false, false]) : SharedOk Φ t := ⟨fun p q h0 h1 => by rw [h]; show (if _ then _ else _) = _; rw [if_pos ⟨h0, h1⟩], m⟩
theorem ev_shared {Φ : Env} {t : Nat} {e f : E} {s s1 s2 : Sl} {p q : Int × Int} (T : SharedOk Φ t) (he : ev Φ e s = .ok (.dt (prD p)) s1) (hf : ev Φ f s1 = .ok (.dt (prD q)) s2) (h0 : okP p) (h1 : okP q) :
    ev Φ (.call t (.cons e (.cons f .nil)) []) s = .ok (.dt (prD (shS p q))) s2 := by
  simp [ev, evs, he, hf, T.mask, escM, esc, mskOk, brs, gets, Vl.get, T.fn p q h0 h1, backL, vlOf]
/-! a drawn fraction -/
def m30 (i : Int) : Int := if i = 0 then 12 else if i = 1 then 1000000 else 1000000000000000000000000000000
theorem m30_rng (i : Int) : 0 < m30 i ∧ m30 i ≤ 1000000000000000000000000000000 := by
  unfold m30
  split
  · omega
  · split <;> omega
theorem at3b {i : Int} (h0 : 0 ≤ i) (h1 : i < 3) : L2.atI [PyData.int 12, PyData.int 1000000, PyData.int 1000000000000000000000000000000] i = some (.int (m30 i)) := by
  rcases three h0 h1 with rfl | rfl | rfl <;> rfl
def fbS (xs : List Int) : (Int × Int) × List Int := let p := takeS xs 3; let q := takeS p.2 (2 * m30 p.1 + 1); let r := takeS q.2 (m30 p.1); (fr (q.1 - m30 p.1) (1 + r.1), r.2)
theorem ev_pick {Φ : Env} {t i : Nat} {p : Bool} {s : Sl} {xs : List Int} (T : TakeOk Φ t) (h : s[i]? = some (.own p (.list (xs.map .int)))) :
    ev Φ (.ix (.lst (.cons (.int 12) (.cons (.bin .pow (.int 10) (.int 6)) (.cons (.bin .pow (.int 10) (.int 30)) .nil)))) (.call t (.cons (.var i) (.cons (.int 3) .nil)) [])) s = .ok (.dt (.int (m30 (takeS xs 3).1))) (s.set i (.own p (.list ((takeS xs 3).2.map .int)))) := by
  obtain ⟨r0, r1⟩ := takeS_rng xs (m := 3) (by decide)
  exact ev_ix (ev_lst (vs := [.dt (.int 12), .dt (.int 1000000), .dt (.int 1000000000000000000000000000000)]) (s1 := s) (s2 := s) (by simp [evs, ev, Vl.get, binD, ofO]) rfl rfl) (ev_take T h ev_ii (by decide) (by decide)) rfl rfl (at3b r0 r1)
def F_fby (t f : Nat) : Fn := { np := 1, ns := 3, mask := [true], body := (.cons (.asg (.nm 1) (.ix (.lst (.cons (.int 12) (.cons (.bin .pow (.int 10) (.int 6)) (.cons (.bin .pow (.int 10) (.int 30)) .nil)))) (.call t (.cons (.var 0) (.cons (.int 3) .nil)) []))) (.cons (.asg (.nm 2) (.bin .sub (.call t (.cons (.var 0) (.cons (.bin .add (.bin .mul (.int 2) (.var 1)) (.int 1)) .nil)) []) (.var 1))) (.cons (.ret (.call f (.cons (.var 2) (.cons (.bin .add (.int 1) (.call t (.cons (.var 0) (.cons (.var 1) .nil)) [])) .nil)) [])) .nil))) }
def phFby : List D → Option Ret := glst fun xs => some (.ok false (prD (fbS xs).1) [.list ((fbS xs).2.map .int)])
theorem ok_fby {Φ : Env} {t f : Nat} (T : TakeOk Φ t) (F : FrOk Φ f) {ds : List D} {r : Ret} (h : phFby ds = some r) : ∃ n, runFn Φ n (F_fby t f) ds = some r := by
  obtain ⟨xs, rfl, e⟩ := glst_inv h
  refine ⟨0, Eq.trans ?_ e⟩
  have r0 := m30_rng (takeS xs 3).1
  have e1 := asg_nm (n := 0) (i := 1) (ev_pick (s := [.own true (.list (xs.map .int)), .no, .no]) (i := 0) (p := true) (xs := xs) T rfl) rfl
  have e2 := ev_take (Φ := Φ) (t := t) (i := 0) (e := (.bin .add (.bin .mul (.int 2) (.var 1)) (.int 1))) (p := true) (m := 2 * m30 (takeS xs 3).1 + 1) (xs := (takeS xs 3).2) (s := [.own true (.list ((takeS xs 3).2.map .int)), .val (.int (m30 (takeS xs 3).1)), .no]) T rfl
    (by simp [ev, Vl.get, binD, ofO, mulB]) (by omega) (big40 (by omega))
  have e3 := asg_nm (n := 0) (i := 2) (ev_bin (op := .sub) (b := .var 1) e2 (ev_vi (d := .int (m30 (takeS xs 3).1)) rfl) rfl rfl rfl) rfl
  have e4 := ev_take (Φ := Φ) (t := t) (i := 0) (e := (.var 1)) (p := true) (m := m30 (takeS xs 3).1) (xs := (takeS (takeS xs 3).2 (2 * m30 (takeS xs 3).1 + 1)).2) (s := [.own true (.list ((takeS (takeS xs 3).2 (2 * m30 (takeS xs 3).1 + 1)).2.map .int)), .val (.int (m30 (takeS xs 3).1)), .val (.int ((takeS (takeS xs 3).2 (2 * m30 (takeS xs 3).1 + 1)).1 - m30 (takeS xs 3).1))]) T rfl
    (ev_vi rfl) (by omega) (big40 (by omega))
  have r4 := takeS_rng (takeS (takeS xs 3).2 (2 * m30 (takeS xs 3).1 + 1)).2 (m := m30 (takeS xs 3).1) (by omega)
  have e5 := ev_bin (op := .add) (a := .int 1) (r := .dt (.int (1 + (takeS (takeS (takeS xs 3).2 (2 * m30 (takeS xs 3).1 + 1)).2 (m30 (takeS xs 3).1)).1))) ev_ii e4 rfl rfl rfl
  have e6 := ret_dt (n := 0) (ev_fr F (ev_vi (i := 2) rfl) e5 (by omega) (smal_of (k := 200) (Nat.lt_of_le_of_lt (show _ ≤ 2000000000000000000000000000000 by omega) (by decide)) (by decide)))
  exact (runFn_rt (f := F_fby t f) (ds := [.list (xs.map .int)]) ((runs_nx e1).trans ((runs_nx e3).trans (runs_rt e6)))).trans rfl
structure FbyOk (Φ : Env) (t : Nat) : Prop where
  fn : ∀ (xs : List Int), Φ.fn t [.list (xs.map .int)] = some (.ok false (prD (fbS xs).1) [.list ((fbS xs).2.map .int)])
  mask : Φ.mask t = [true]
theorem mkFby {Φ : Env} {t : Nat} (h : Φ.fn t = phFby) (m : Φ.mask t = [true]) : FbyOk Φ t := ⟨fun xs => by rw [h, phFby, glst_at], m⟩
theorem ev_fby {Φ : Env} {t i : Nat} {p : Bool} {s : Sl} {xs : List Int} (T : FbyOk Φ t) (h : s[i]? = some (.own p (.list (xs.map .int)))) :
    ev Φ (.call t (.cons (.var i) .nil) []) s = .ok (.dt (prD (fbS xs).1)) (s.set i (.own p (.list ((fbS xs).2.map .int)))) := by
  simp [ev, evs, h, T.mask, escM, esc, mskOk, brs, gets, Vl.get, T.fn xs, backL, vlOf]
theorem fbS_rng (xs : List Int) : 0 < (fbS xs).1.2 ∧ (fbS xs).1.2 ≤ 1000000000000000000000000000000 ∧ (fbS xs).1.1.natAbs ≤ 1000000000000000000000000000000 := by
  have r0 := m30_rng (takeS xs 3).1
  have r1 := takeS_rng (takeS xs 3).2 (m := 2 * m30 (takeS xs 3).1 + 1) (by omega)
  have r4 := takeS_rng (takeS (takeS xs 3).2 (2 * m30 (takeS xs 3).1 + 1)).2 (m := m30 (takeS xs 3).1) (by omega)
  have c := fr_cross (t := (takeS (takeS xs 3).2 (2 * m30 (takeS xs 3).1 + 1)).1 - m30 (takeS xs 3).1) (b := 1 + (takeS (takeS (takeS xs 3).2 (2 * m30 (takeS xs 3).1 + 1)).2 (m30 (takeS xs 3).1)).1) (by omega)
  show 0 < (fr _ _).2 ∧ (fr _ _).2 ≤ _ ∧ (fr _ _).1.natAbs ≤ _
  omega

theorem gcd_sgn {a c s t : Int} (hs : s = 1 ∨ s = -1) (ht : t = 1 ∨ t = -1) : Int.gcd (a * s) (c * t) = Int.gcd a c := by
  rcases hs with rfl | rfl <;> rcases ht with rfl | rfl <;> simp
theorem shared_law {p q a c s t : Int} (hp : 0 < p) (hq : 0 < q) (hs : s = 1 ∨ s = -1) (ht : t = 1 ∨ t = -1) : shS (fr (p * a * s) q) (fr (p * c * t) q) = fr (p * Int.gcd a c) q := by
  obtain ⟨e1, o2, _⟩ := fr_cross (t := p * a * s) hq
  obtain ⟨e2, r2, _⟩ := fr_cross (t := p * c * t) hq
  unfold shS
  generalize fr (p * a * s) q = o at *
  generalize fr (p * c * t) q = r at *
  refine fr_eq (Int.mul_pos o2 r2) hq ?_
  have K : 0 < p * o.2 * r.2 := Int.mul_pos (Int.mul_pos hp o2) r2
  have k1 : o.1 * r.2 * q = a * s * (p * o.2 * r.2) := by
    calc o.1 * r.2 * q = o.1 * q * r.2 := by rw [Int.mul_assoc, Int.mul_comm r.2 q, ← Int.mul_assoc]
      _ = p * a * s * o.2 * r.2 := by rw [e1]
      _ = a * s * (p * o.2 * r.2) := by simp only [Int.mul_assoc, Int.mul_left_comm p]
  have k2 : r.1 * o.2 * q = c * t * (p * o.2 * r.2) := by
    calc r.1 * o.2 * q = r.1 * q * o.2 := by rw [Int.mul_assoc, Int.mul_comm o.2 q, ← Int.mul_assoc]
      _ = p * c * t * r.2 * o.2 := by rw [e2]
      _ = c * t * (p * o.2 * r.2) := by rw [Int.mul_assoc _ r.2 o.2, Int.mul_comm r.2 o.2]; simp only [Int.mul_assoc, Int.mul_left_comm p]
  have k3 : (Int.gcd (o.1 * r.2 * q) (r.1 * o.2 * q) : Int) = Int.gcd (o.1 * r.2) (r.1 * o.2) * q := by
    rw [Int.gcd_mul_right, Int.natCast_mul]
    congr 1
    omega
  rw [← k3, k1, k2, Int.gcd_mul_right, Int.natCast_mul, gcd_sgn hs ht]
  have : (((p * o.2 * r.2).natAbs : Nat) : Int) = p * o.2 * r.2 := by omega
  rw [this]
  simp only [Int.mul_assoc, Int.mul_left_comm p]
theorem shared_zero {o : Int × Int} (h : 0 < o.2) (g : Int.gcd o.1 o.2 = 1) : shS o (0, 1) = ((o.1.natAbs : Int), o.2) ∧ shS (0, 1) o = ((o.1.natAbs : Int), o.2) := by
  have e : fr (o.1.natAbs : Int) o.2 = ((o.1.natAbs : Int), o.2) := fr_low h (by simpa [Int.gcd] using g)
  constructor
  · unfold shS
    simpa using e
  · unfold shS
    simpa using e
def sgS (i : Int) : Int := if i = 0 then 1 else -1
theorem sgS_or (i : Int) : sgS i = 1 ∨ sgS i = -1 := by
  unfold sgS
  split
  · exact .inl rfl
  · exact .inr rfl
theorem ev_sgn {Φ : Env} {t i : Nat} {p : Bool} {s : Sl} {xs : List Int} (T : TakeOk Φ t) (h : s[i]? = some (.own p (.list (xs.map .int)))) :
    ev Φ (.ix (.lst (.cons (.int 1) (.cons (.neg (.int 1)) .nil))) (.call t (.cons (.var i) (.cons (.int 2) .nil)) [])) s = .ok (.dt (.int (sgS (takeS xs 2).1))) (s.set i (.own p (.list ((takeS xs 2).2.map .int)))) := by
  obtain ⟨r0, r1⟩ := takeS_rng xs (m := 2) (by decide)
  refine ev_ix (ev_lst (vs := [.dt (.int 1), .dt (.int (-1))]) (s1 := s) (s2 := s) (by simp [evs, ev, Vl.get]) rfl rfl) (ev_take T h ev_ii (by decide) (by decide)) rfl rfl ?_
  rcases (by omega : (takeS xs 2).1 = 0 ∨ (takeS xs 2).1 = 1) with e | e <;> rw [e] <;> rfl

theorem ev_tup {Φ : Env} {es : Es} {s s1 s2 : Sl} {vs : List Vl} {ds : List D} (h : evs Φ es s = .ok vs s1) (h2 : escs s1 vs = some (ds, s2)) (hz : sizeB ds.length = true) : ev Φ (.tup es) s = .ok (.dt (.tuple ds)) s2 := by
  rw [ev, h]
  simp [h2, hz]

theorem ev_isP {Φ : Env} {t : Nat} {e f : E} {s s1 s2 : Sl} {p q : Int × Int} (T : IsOk Φ t) (he : ev Φ e s = .ok (.dt (prD p)) s1) (hf : ev Φ f s1 = .ok (.dt (prD q)) s2) :
    ev Φ (.call t (.cons e (.cons f .nil)) []) s = .ok (.dt (.bool (decide (p = q)))) s2 := by
  cases p
  cases q
  exact ev_is T he hf

/-! fractions with any bottom -/
theorem fr_neg {a b : Int} (h : b < 0) : fr a b = fr (-a) (-b) := by
  rw [fr_pos (t := -a) (b := -b) (by omega)]
  unfold fr
  rw [if_pos h]
  simp
theorem fr_scale {t b k : Int} (hb : b ≠ 0) (hk : k ≠ 0) : fr (t * k) (b * k) = fr t b := by
  rcases Int.lt_or_lt_of_ne hb with b0 | b0 <;> rcases Int.lt_or_lt_of_ne hk with k0 | k0
  · have e : fr (t * k) (b * k) = fr (-t * -k) (-b * -k) := by rw [Int.neg_mul_neg, Int.neg_mul_neg]
    rw [e, fr_mul (by omega) (by omega), ← fr_neg b0]
  · rw [fr_neg (Int.mul_neg_of_neg_of_pos b0 k0), ← Int.neg_mul, ← Int.neg_mul, fr_mul (by omega) k0, ← fr_neg b0]
  · rw [fr_neg (Int.mul_neg_of_pos_of_neg b0 k0), ← Int.mul_neg, ← Int.mul_neg, fr_mul b0 (by omega)]
  · exact fr_mul b0 k0
theorem smal_neg {b : Int} (h : smal b) : smal (-b) := by unfold smal at *; rwa [Int.natAbs_neg]
def phFrN : List D → Option Ret := gint2 fun a b => if b ≠ 0 ∧ smal b then some (.ok false (prD (fr a b)) []) else none
def phFrX (e : Nat) : List D → Option Ret := gint2 fun a b => if b = 0 then some (.ex e [] []) else if smal b then some (.ok false (prD (fr a b)) []) else none
structure FrNOk (Φ : Env) (t : Nat) : Prop where
  fn : ∀ a b : Int, b ≠ 0 → smal b → Φ.fn t [.int a, .int b] = some (.ok false (prD (fr a b)) [])
  mask : Φ.mask t = [false, false]
theorem mkFrN {Φ : Env} {t : Nat} (h : Φ.fn t = phFrN) (m : Φ.mask t = [false, false]) : FrNOk Φ t := ⟨fun a b h0 h1 => by rw [h]; show (if _ then _ else _) = _; rw [if_pos ⟨h0, h1⟩], m⟩
theorem mkFrX {Φ : Env} {t e : Nat} (h : Φ.fn t = phFrX e) (m : Φ.mask t = [false, false]) : FrNOk Φ t := ⟨fun a b h0 h1 => by rw [h]; show (if _ then _ else (if _ then _ else _)) = _; rw [if_neg h0, if_pos h1], m⟩
theorem ev_frN {Φ : Env} {t : Nat} {e f : E} {s s1 s2 : Sl} {a b : Int} (T : FrNOk Φ t) (he : ev Φ e s = .ok (.dt (.int a)) s1) (hf : ev Φ f s1 = .ok (.dt (.int b)) s2) (h0 : b ≠ 0) (h1 : smal b) :
    ev Φ (.call t (.cons e (.cons f .nil)) []) s = .ok (.dt (prD (fr a b))) s2 := by
  simp [ev, evs, he, hf, T.mask, escM, esc, mskOk, brs, gets, Vl.get, T.fn a b h0 h1, backL, vlOf]
theorem ev_frN1 {Φ : Env} {t : Nat} {e : E} {s s1 : Sl} {a : Int} (T : FrNOk Φ t) (he : ev Φ e s = .ok (.dt (.int a)) s1) :
    ev Φ (.call t (.cons e .nil) [.int 1]) s = .ok (.dt (prD (fr a 1))) s1 := by
  simp [ev, evs, he, T.mask, escM, esc, mskOk, brs, gets, Vl.get, T.fn a 1 (by decide) (by decide), backL, vlOf]
def F_fractionX (t e : Nat) : Fn := { np := 2, ns := 2, mask := [false, false], body := (.cons (.ifs (.cmp .eq (.var 1) (.int 0)) (.cons (.raisT e) .nil) .nil) (.cons (.ifs (.cmp .gt (.var 1) (.int 0)) (.cons (.ret (.call t (.cons (.tup (.cons (.var 0) (.cons (.var 1) .nil))) .nil) [])) .nil) .nil) (.cons (.ret (.call t (.cons (.tup (.cons (.neg (.var 0)) (.cons (.neg (.var 1)) .nil))) .nil) [])) .nil))) }
theorem ok_fractionX {Φ : Env} {t e : Nat} (T : LowOk Φ t) {ds : List D} {r : Ret} (h : phFrX e ds = some r) : ∃ n, runFn Φ n (F_fractionX t e) ds = some r := by
  obtain ⟨a, b, rfl, q⟩ := gint2_inv h
  have hz : 2 ≤ sizeLine := by decide
  refine ⟨0, Eq.trans ?_ q⟩
  by_cases h0 : b = 0
  · subst h0
    simp [runFn, F_fractionX, start, runs, run, ev, cmpD, ofO, Vl.get, outsOf]
  · rw [if_neg h0]
    split at q
    · exact absurd ‹b = 0› h0
    · split at q
      · rename_i hs
        rw [if_pos hs]
        by_cases h1 : 0 < b
        · simp [hz, runFn, F_fractionX, start, runs, run, ev, evs, cmpD, ofO, Vl.get, h0, h1, escs, esc, sizeB, T.mask, escM, mskOk, brs, gets, T.tup a b h1 hs, backL, vlOf, retV, outsOf]
        · have h2 : b < 0 := by omega
          simp [hz, runFn, F_fractionX, start, runs, run, ev, evs, cmpD, ofO, Vl.get, h0, h1, escs, esc, sizeB, T.mask, escM, mskOk, brs, gets, T.tup (-a) (-b) (by omega) (smal_neg hs), backL, vlOf, retV, outsOf, fr_neg h2]
      · cases q
theorem ok_fracN {Φ : Env} {t : Nat} (T : LowOk Φ t) {ds : List D} {r : Ret} (h : phFrN ds = some r) : ∃ n, runFn Φ n (F_frac t) ds = some r := by
  obtain ⟨a, b, rfl, e⟩ := gint2_inv h
  split at e
  · rename_i hb
    refine ⟨0, Eq.trans ?_ e⟩
    have hz : 2 ≤ sizeLine := by decide
    by_cases h0 : b < 0
    · have e1 := T.lst (0 - a) (0 - b) (by omega) (by rw [Int.zero_sub]; exact smal_neg hb.2)
      have e2 : fr (0 - a) (0 - b) = fr a b := by rw [fr_neg h0, Int.zero_sub, Int.zero_sub]
      rw [e2, Int.zero_sub, Int.zero_sub] at e1
      simp [hz, runFn, F_frac, start, runs, run, ev, evs, cmpD, ofO, Vl.get, binD, h0, escs, esc, sizeB, T.mask, escM, mskOk, brs, gets, e1, backL, vlOf, retV, outsOf]
    · simp [hz, runFn, F_frac, start, runs, run, ev, evs, cmpD, ofO, Vl.get, h0, escs, esc, sizeB, T.mask, escM, mskOk, brs, gets, T.lst a b (by omega) hb.2, backL, vlOf, retV, outsOf]
  · cases e
/-- a refusal, asked -/
structure RefOk (Φ : Env) (t : Nat) : Prop where
  fn : ∀ a : Int, Φ.fn t [.int a] = some (.ok false (.bool true) [])
  mask : Φ.mask t = [false]
theorem mkRef {Φ : Env} {t : Nat} (h : Φ.fn t = phWhole) (m : Φ.mask t = [false]) : RefOk Φ t := ⟨fun a => by rw [h]; rfl, m⟩
theorem ev_ref {Φ : Env} {t : Nat} {e : E} {s s1 : Sl} {a : Int} (T : RefOk Φ t) (he : ev Φ e s = .ok (.dt (.int a)) s1) : ev Φ (.call t (.cons e .nil) []) s = .ok (.dt (.bool true)) s1 := by
  simp [ev, evs, he, T.mask, escM, esc, mskOk, brs, gets, Vl.get, T.fn a, backL, vlOf]

theorem ev_not {Φ : Env} {e : E} {s s1 : Sl} {b : Bool} (h : ev Φ e s = .ok (.dt (.bool b)) s1) : ev Φ (.not e) s = .ok (.dt (.bool (!b))) s1 := by rw [ev, h]
theorem evOr_f {Φ : Env} {e f : E} {es : Es} {s s1 : Sl} (h : ev Φ e s = .ok (.dt (.bool false)) s1) : evOr Φ (.cons e (.cons f es)) s = evOr Φ (.cons f es) s1 := by
  rw [evOr]
  · rw [h]
  · intro z; cases z
theorem evOr_1 {Φ : Env} {e : E} {s s1 : Sl} {b : Bool} (h : ev Φ e s = .ok (.dt (.bool b)) s1) : evOr Φ (.cons e .nil) s = .ok (.dt (.bool b)) s1 := by
  rw [evOr, h]
theorem ev_or {Φ : Env} {es : Es} {s : Sl} {r : R Vl} (h : evOr Φ es s = r) : ev Φ (.or es) s = r := by rw [ev, h]
end Mi

/-! MiN: fractions reckoned. -/
namespace Mi
open PySem
theorem ev_add {Φ : Env} {a b : E} {s s1 s2 : Sl} {i j : Int} (ha : ev Φ a s = .ok (.dt (.int i)) s1) (hb : ev Φ b s1 = .ok (.dt (.int j)) s2) : ev Φ (.bin .add a b) s = .ok (.dt (.int (i + j))) s2 := ev_bin ha hb rfl rfl rfl
theorem ev_sub {Φ : Env} {a b : E} {s s1 s2 : Sl} {i j : Int} (ha : ev Φ a s = .ok (.dt (.int i)) s1) (hb : ev Φ b s1 = .ok (.dt (.int j)) s2) : ev Φ (.bin .sub a b) s = .ok (.dt (.int (i - j))) s2 := ev_bin ha hb rfl rfl rfl
/-- the fraction maker, refusals too -/
structure FrXOk (Φ : Env) (t e : Nat) : Prop where
  fn : ∀ a b : Int, b ≠ 0 → smal b → Φ.fn t [.int a, .int b] = some (.ok false (prD (fr a b)) [])
  no : ∀ a : Int, Φ.fn t [.int a, .int 0] = some (.ex e [] [])
  mask : Φ.mask t = [false, false]
theorem FrXOk.n {Φ : Env} {t e : Nat} (T : FrXOk Φ t e) : FrNOk Φ t := ⟨T.fn, T.mask⟩
theorem mkFrXX {Φ : Env} {t e : Nat} (h : Φ.fn t = phFrX e) (m : Φ.mask t = [false, false]) : FrXOk Φ t e := ⟨(mkFrX h m).fn, fun a => by rw [h]; rfl, m⟩
theorem ev_frX0 {Φ : Env} {t c : Nat} {e f : E} {s s1 s2 : Sl} {a : Int} (T : FrXOk Φ t c) (he : ev Φ e s = .ok (.dt (.int a)) s1) (hf : ev Φ f s1 = .ok (.dt (.int 0)) s2) :
    ev Φ (.call t (.cons e (.cons f .nil)) []) s = .ex c [] s2 := by
  simp [ev, evs, he, hf, T.mask, escM, esc, mskOk, brs, gets, Vl.get, T.no a, backL]
theorem ret_ex {Φ : Env} {n : Nat} {e : E} {s s1 : Sl} {c : Nat} (h : ev Φ e s = .ex c [] s1) : run Φ n (.ret e) s = .ex c [] s1 := by rw [run, h]
theorem runFn_ex {Φ : Env} {n : Nat} {f : Fn} {ds : List D} {s : Sl} {c : Nat} {as : List D} (h : runs Φ n f.body (start f.mask ds ++ List.replicate (f.ns - ds.length) .no) = .ex c as s) : runFn Φ n f ds = (outsOf f.mask s).map (.ex c as) := by
  unfold runFn; rw [h]
def F_pp (f : Nat) (a b : E) : Fn := { np := 2, ns := 2, mask := [false, false], body := (.cons (.ret (.call f (.cons a (.cons b .nil)) [])) .nil) }
theorem run_pp {Φ : Env} {f : Nat} {e1 e2 : E} {p q : Int × Int} {a b : Int} (T : FrNOk Φ f) (h1 : ev Φ e1 [.val (prD p), .val (prD q)] = .ok (.dt (.int a)) [.val (prD p), .val (prD q)]) (h2 : ev Φ e2 [.val (prD p), .val (prD q)] = .ok (.dt (.int b)) [.val (prD p), .val (prD q)]) (h0 : b ≠ 0) (hs : smal b) :
    runFn Φ 0 (F_pp f e1 e2) [prD p, prD q] = some (.ok false (prD (fr a b)) []) := by
  have rr := runs_rt (n := 0) (ss := .nil) (ret_dt (ev_frN T h1 h2 h0 hs))
  exact (runFn_rt (f := F_pp f e1 e2) (ds := [prD p, prD q]) (s := [.val (prD p), .val (prD q)]) rr).trans rfl
theorem run_ppX {Φ : Env} {f c : Nat} {e1 e2 : E} {p q : Int × Int} {a : Int} (T : FrXOk Φ f c) (h1 : ev Φ e1 [.val (prD p), .val (prD q)] = .ok (.dt (.int a)) [.val (prD p), .val (prD q)]) (h2 : ev Φ e2 [.val (prD p), .val (prD q)] = .ok (.dt (.int 0)) [.val (prD p), .val (prD q)]) :
    runFn Φ 0 (F_pp f e1 e2) [prD p, prD q] = some (.ex c [] []) := by
  have rr := runs_ex (n := 0) (ss := .nil) (ret_ex (ev_frX0 T h1 h2))
  exact (runFn_ex (f := F_pp f e1 e2) (ds := [prD p, prD q]) (s := [.val (prD p), .val (prD q)]) rr).trans rfl
/-- what a maker of a fraction of two fractions tells -/
def phPP (g : Int × Int → Int × Int → Int × Int) : List D → Option Ret := gpp fun p q => if okP p ∧ okP q then some (.ok false (prD (fr (g p q).1 (g p q).2)) []) else none
def gSum (p q : Int × Int) : Int × Int := (p.1 * q.2 + q.1 * p.2, p.2 * q.2)
def gDif (p q : Int × Int) : Int × Int := (p.1 * q.2 - q.1 * p.2, p.2 * q.2)
def gMul (p q : Int × Int) : Int × Int := (p.1 * q.1, p.2 * q.2)
theorem ok_lawsum {Φ : Env} {f : Nat} (T : FrNOk Φ f) {ds : List D} {r : Ret} (h : phPP gSum ds = some r) : ∃ n, runFn Φ n (F_pp f (.bin .add (.bin .mul (.ix (.var 0) (.int 0)) (.ix (.var 1) (.int 1))) (.bin .mul (.ix (.var 1) (.int 0)) (.ix (.var 0) (.int 1)))) (.bin .mul (.ix (.var 0) (.int 1)) (.ix (.var 1) (.int 1)))) ds = some r := by
  obtain ⟨p, q, rfl, e⟩ := gpp_inv h
  split at e
  · rename_i hb
    obtain ⟨⟨p0, p1, p2⟩, q0, q1, q2⟩ := hb
    refine ⟨0, Eq.trans (run_pp (p := p) (q := q) T (ev_add (ev_mul (ev_ix0 (i := 0) rfl) (ev_ix1 (i := 1) rfl) (smal_mulB (smal250 p1) (smal250 q2))) (ev_mul (ev_ix0 (i := 1) rfl) (ev_ix1 (i := 0) rfl) (smal_mulB (smal250 q1) (smal250 p2)))) (ev_mul (ev_ix1 (i := 0) rfl) (ev_ix1 (i := 1) rfl) (smal_mulB (smal250 p2) (smal250 q2))) (Int.mul_ne_zero (by omega) (by omega)) (smal_mul p2 q2)) e⟩
  · cases e
theorem ok_times {Φ : Env} {f : Nat} (T : FrNOk Φ f) {ds : List D} {r : Ret} (h : phPP gMul ds = some r) : ∃ n, runFn Φ n (F_pp f (.bin .mul (.ix (.var 0) (.int 0)) (.ix (.var 1) (.int 0))) (.bin .mul (.ix (.var 0) (.int 1)) (.ix (.var 1) (.int 1)))) ds = some r := by
  obtain ⟨p, q, rfl, e⟩ := gpp_inv h
  split at e
  · rename_i hb
    obtain ⟨⟨p0, p1, p2⟩, q0, q1, q2⟩ := hb
    refine ⟨0, Eq.trans (run_pp (p := p) (q := q) T (ev_mul (ev_ix0 (i := 0) rfl) (ev_ix0 (i := 1) rfl) (smal_mulB (smal250 p1) (smal250 q1))) (ev_mul (ev_ix1 (i := 0) rfl) (ev_ix1 (i := 1) rfl) (smal_mulB (smal250 p2) (smal250 q2))) (Int.mul_ne_zero (by omega) (by omega)) (smal_mul p2 q2)) e⟩
  · cases e

def phDiv (c : Nat) : List D → Option Ret := gpp fun p q => if okP p ∧ okP q then (if q.1 = 0 then some (.ex c [] []) else some (.ok false (prD (fr (p.1 * q.2) (p.2 * q.1))) [])) else none
def eDT : E := .bin .mul (.ix (.var 0) (.int 0)) (.ix (.var 1) (.int 1))
def eDB : E := .bin .mul (.ix (.var 0) (.int 1)) (.ix (.var 1) (.int 0))
theorem ok_divided {Φ : Env} {f c : Nat} (T : FrXOk Φ f c) {ds : List D} {r : Ret} (h : phDiv c ds = some r) : ∃ n, runFn Φ n (F_pp f (.bin .mul (.ix (.var 0) (.int 0)) (.ix (.var 1) (.int 1))) (.bin .mul (.ix (.var 0) (.int 1)) (.ix (.var 1) (.int 0)))) ds = some r := by
  obtain ⟨p, q, rfl, e⟩ := gpp_inv h
  split at e
  · rename_i hb
    obtain ⟨⟨p0, p1, p2⟩, q0, q1, q2⟩ := hb
    have t1 := ev_mul (Φ := Φ) (ev_ix0 (s := [.val (prD p), .val (prD q)]) (i := 0) rfl) (ev_ix1 (i := 1) rfl) (smal_mulB (smal250 p1) (smal250 q2))
    have t2 := ev_mul (Φ := Φ) (ev_ix1 (s := [.val (prD p), .val (prD q)]) (i := 0) rfl) (ev_ix0 (i := 1) rfl) (smal_mulB (smal250 p2) (smal250 q1))
    split at e
    · rename_i hz
      rw [hz, Int.mul_zero] at t2
      exact ⟨0, Eq.trans (run_ppX (p := p) (q := q) T t1 t2) e⟩
    · rename_i hz
      exact ⟨0, Eq.trans (run_pp (p := p) (q := q) T.n t1 t2 (Int.mul_ne_zero (by omega) hz) (smal_mul p2 q1)) e⟩
  · cases e
def F_plus (f : Nat) (op : BOp) : Fn := { np := 2, ns := 4, mask := [false, false], body := (.cons (.asg (.tp (.cons (.nm 2) (.cons (.nm 3) .nil))) (.var 0)) (.cons (.ret (.call f (.cons (.bin op (.bin .mul (.var 2) (.ix (.var 1) (.int 1))) (.bin .mul (.var 3) (.ix (.var 1) (.int 0)))) (.cons (.bin .mul (.var 3) (.ix (.var 1) (.int 1))) .nil)) [])) .nil)) }
theorem plus_end {Φ : Env} {f : Nat} {op : BOp} {p q : Int × Int} {a : Int} (T : FrNOk Φ f) (hp : okP p) (hq : okP q) (h1 : ev Φ (.bin op (.bin .mul (.var 2) (.ix (.var 1) (.int 1))) (.bin .mul (.var 3) (.ix (.var 1) (.int 0)))) [.val (prD p), .val (prD q), .val (.int p.1), .val (.int p.2)] = .ok (.dt (.int a)) [.val (prD p), .val (prD q), .val (.int p.1), .val (.int p.2)]) :
    runFn Φ 0 (F_plus f op) [prD p, prD q] = some (.ok false (prD (fr a (p.2 * q.2))) []) := by
  obtain ⟨p0, p1, p2⟩ := hp
  obtain ⟨q0, q1, q2⟩ := hq
  have u : run Φ 0 (.asg (.tp (.cons (.nm 2) (.cons (.nm 3) .nil))) (.var 0)) [.val (prD p), .val (prD q), .no, .no] = .ok .nx [.val (prD p), .val (prD q), .val (.int p.1), .val (.int p.2)] := by
    simp [run, ev, bindV, esc, bindD, bindDs, prD, canSet]
  have t2 := ev_mul (Φ := Φ) (ev_vi (s := [.val (prD p), .val (prD q), .val (.int p.1), .val (.int p.2)]) (i := 3) (d := .int p.2) rfl) (ev_ix1 (i := 1) (p := q) rfl) (smal_mulB (smal250 p2) (smal250 q2))
  have rr := runs_rt (n := 0) (ss := .nil) (ret_dt (ev_frN T h1 t2 (Int.mul_ne_zero (by omega) (by omega)) (smal_mul p2 q2)))
  exact (runFn_rt (f := F_plus f op) (ds := [prD p, prD q]) ((runs_nx u).trans rr)).trans rfl
theorem ok_plus {Φ : Env} {f : Nat} (T : FrNOk Φ f) {ds : List D} {r : Ret} (h : phPP gSum ds = some r) : ∃ n, runFn Φ n (F_plus f .add) ds = some r := by
  obtain ⟨p, q, rfl, e⟩ := gpp_inv h
  split at e
  · rename_i hb
    have t := plus_end (op := .add) (p := p) (q := q) T hb.1 hb.2 (ev_add (ev_mul (ev_vi (i := 2) (d := .int p.1) rfl) (ev_ix1 (i := 1) (p := q) rfl) (smal_mulB (smal250 hb.1.2.1) (smal250 hb.2.2.2))) (ev_mul (ev_vi (i := 3) (d := .int p.2) rfl) (ev_ix0 (i := 1) (p := q) rfl) (smal_mulB (smal250 hb.1.2.2) (smal250 hb.2.2.1))))
    rw [Int.mul_comm p.2 q.1] at t
    exact ⟨0, t.trans e⟩
  · cases e
theorem ok_minus {Φ : Env} {f : Nat} (T : FrNOk Φ f) {ds : List D} {r : Ret} (h : phPP gDif ds = some r) : ∃ n, runFn Φ n (F_plus f .sub) ds = some r := by
  obtain ⟨p, q, rfl, e⟩ := gpp_inv h
  split at e
  · rename_i hb
    have t := plus_end (op := .sub) (p := p) (q := q) T hb.1 hb.2 (ev_sub (ev_mul (ev_vi (i := 2) (d := .int p.1) rfl) (ev_ix1 (i := 1) (p := q) rfl) (smal_mulB (smal250 hb.1.2.1) (smal250 hb.2.2.2))) (ev_mul (ev_vi (i := 3) (d := .int p.2) rfl) (ev_ix0 (i := 1) (p := q) rfl) (smal_mulB (smal250 hb.1.2.2) (smal250 hb.2.2.1))))
    rw [Int.mul_comm p.2 q.1] at t
    exact ⟨0, t.trans e⟩
  · cases e
def rk (z : Int) : Int := (if 0 < z then 1 else 0) - (if z < 0 then 1 else 0)
def phRk : List D → Option Ret := gpp fun p q => if okP p ∧ okP q then some (.ok false (.int (rk (p.1 * q.2 - p.2 * q.1))) []) else none
def F_ranked : Fn := { np := 2, ns := 3, mask := [false, false], body := (.cons (.asg (.nm 2) (.bin .sub (.bin .mul (.ix (.var 0) (.int 0)) (.ix (.var 1) (.int 1))) (.bin .mul (.ix (.var 0) (.int 1)) (.ix (.var 1) (.int 0))))) (.cons (.ret (.bin .sub (.blt .int (.cons (.cmp .gt (.var 2) (.int 0)) .nil)) (.blt .int (.cons (.cmp .lt (.var 2) (.int 0)) .nil)))) .nil)) }
theorem ev_rk {Φ : Env} {s : Sl} {i : Nat} {z : Int} (h : s[i]? = some (.val (.int z))) : ev Φ (.bin .sub (.blt .int (.cons (.cmp .gt (.var i) (.int 0)) .nil)) (.blt .int (.cons (.cmp .lt (.var i) (.int 0)) .nil))) s = .ok (.dt (.int (rk z))) s := by
  have c1 := ev_cmp (Φ := Φ) (op := .gt) (ev_vi h) (ev_ii (i := 0)) rfl rfl rfl
  have c2 := ev_cmp (Φ := Φ) (op := .lt) (ev_vi h) (ev_ii (i := 0)) rfl rfl rfl
  refine ev_sub (i := if 0 < z then 1 else 0) (j := if z < 0 then 1 else 0) (s1 := s) ?_ ?_
  · rw [ev, evs_cons c1 evs_nil]
    simp [gets, Vl.get, bltD, ofO]
  · rw [ev, evs_cons c2 evs_nil]
    simp [gets, Vl.get, bltD, ofO]
theorem ok_ranked {Φ : Env} {ds : List D} {r : Ret} (h : phRk ds = some r) : ∃ n, runFn Φ n F_ranked ds = some r := by
  obtain ⟨p, q, rfl, e⟩ := gpp_inv h
  split at e
  · rename_i hb
    obtain ⟨⟨p0, p1, p2⟩, q0, q1, q2⟩ := hb
    have u := asg_nm (Φ := Φ) (n := 0) (i := 2) (ev_sub (ev_mul (ev_ix0 (s := [.val (prD p), .val (prD q), .no]) (i := 0) (p := p) rfl) (ev_ix1 (i := 1) (p := q) rfl) (smal_mulB (smal250 p1) (smal250 q2))) (ev_mul (ev_ix1 (i := 0) (p := p) rfl) (ev_ix0 (i := 1) (p := q) rfl) (smal_mulB (smal250 p2) (smal250 q1)))) rfl
    have rr := runs_rt (n := 0) (ss := .nil) (ret_dt (ev_rk (Φ := Φ) (s := [.val (prD p), .val (prD q), .val (.int (p.1 * q.2 - p.2 * q.1))]) (i := 2) rfl))
    exact ⟨0, ((runFn_rt (f := F_ranked) (ds := [prD p, prD q]) ((runs_nx u).trans rr)).trans rfl).trans e⟩
  · cases e

def secS (xs : List Int) (p : Int × Int) : (Int × Int) × List Int :=
  let w := takeS xs 10
  if w.1 = 0 then (p, w.2) else if w.1 = 1 then ((0 - p.1, p.2), w.2) else if w.1 = 2 ∧ p.1 ≠ 0 then (fr p.2 p.1, w.2) else if w.1 = 3 then ((0, 1), w.2) else if w.1 = 4 then (fr (p.1 * 1000 + 1) (p.2 * 1000), w.2) else fbS w.2
def okQ (p : Int × Int) : Prop := 0 < p.2 ∧ p.1.natAbs ≤ 1000000000000000000000000000000 ∧ p.2.natAbs ≤ 1000000000000000000000000000000
instance (p : Int × Int) : Decidable (okQ p) := inferInstanceAs (Decidable (_ ∧ _ ∧ _))
theorem s250 {n : Nat} (h : n ≤ 10000000000000000000000000000000000000000000000000000000000000000000) : n < 2 ^ 250 := Nat.lt_of_le_of_lt h (by decide)
theorem okQ.p {p : Int × Int} (h : okQ p) : okP p := ⟨h.1, s250 (by have := h.2.1; omega), s250 (by have := h.2.2; omega)⟩
theorem sec_ok (xs : List Int) {p : Int × Int} (h : okQ p) : okP (secS xs p).1 := by
  obtain ⟨h0, h1, h2⟩ := h
  unfold secS
  simp only
  split
  · exact okQ.p ⟨h0, h1, h2⟩
  · split
    · exact ⟨h0, s250 (by show (0 - p.1).natAbs ≤ _; omega), s250 (by show p.2.natAbs ≤ _; omega)⟩
    · split
      · rename_i hw
        rcases Int.lt_or_lt_of_ne hw.2 with n | n
        · rw [fr_neg n]
          have c := fr_cross (t := -p.2) (b := -p.1) (by omega)
          exact (⟨c.2.1, s250 (by omega), s250 (by omega)⟩ : okP (fr (-p.2) (-p.1)))
        · have c := fr_cross (t := p.2) n
          exact (⟨c.2.1, s250 (by omega), s250 (by omega)⟩ : okP (fr p.2 p.1))
      · split
        · exact (⟨by decide, by decide, by decide⟩ : okP (0, 1))
        · split
          · have c := fr_cross (t := p.1 * 1000 + 1) (b := p.2 * 1000) (by omega)
            exact (⟨c.2.1, s250 (by omega), s250 (by omega)⟩ : okP (fr (p.1 * 1000 + 1) (p.2 * 1000)))
          · have r := fbS_rng (takeS xs 10).2
            exact (⟨r.1, s250 (by omega), s250 (by omega)⟩ : okP (fbS (takeS xs 10).2).1)
def glp (g : List Int → Int × Int → Option Ret) : List D → Option Ret
  | [.list ds, .tuple [.int a, .int b]] => (intsOf ds).bind fun xs => g xs (a, b)
  | _ => none
theorem glp_inv {g : List Int → Int × Int → Option Ret} {ds : List D} {r : Ret} (h : glp g ds = some r) : ∃ xs p, ds = [.list (xs.map .int), prD p] ∧ g xs p = some r := by
  unfold glp at h
  split at h
  · obtain ⟨xs, e, q⟩ := Option.bind_eq_some_iff.mp h
    exact ⟨xs, (_, _), by rw [intsOf_some e]; rfl, q⟩
  · cases h
def phSec : List D → Option Ret := glp fun xs p => if okQ p then some (.ok false (prD (secS xs p).1) [.list ((secS xs p).2.map .int)]) else none
structure SecOk (Φ : Env) (t : Nat) : Prop where
  fn : ∀ (xs : List Int) (p : Int × Int), okQ p → Φ.fn t [.list (xs.map .int), prD p] = some (.ok false (prD (secS xs p).1) [.list ((secS xs p).2.map .int)])
  mask : Φ.mask t = [true, false]
theorem mkSec {Φ : Env} {t : Nat} (h : Φ.fn t = phSec) (m : Φ.mask t = [true, false]) : SecOk Φ t := ⟨fun xs p hp => by
  rw [h]
  show (intsOf _).bind _ = _
  rw [intsOf_map]
  show (if _ then _ else _) = _
  rw [if_pos hp], m⟩
theorem ev_sec {Φ : Env} {t i : Nat} {e : E} {b : Bool} {s : Sl} {xs : List Int} {p : Int × Int} (T : SecOk Φ t) (h : s[i]? = some (.own b (.list (xs.map .int)))) (he : ev Φ e s = .ok (.dt (prD p)) s) (hp : okQ p) :
    ev Φ (.call t (.cons (.var i) (.cons e .nil)) []) s = .ok (.dt (prD (secS xs p).1)) (s.set i (.own b (.list ((secS xs p).2.map .int)))) := by
  simp [ev, evs, h, he, T.mask, escM, esc, mskOk, brs, gets, Vl.get, T.fn xs p hp, backL, vlOf]
def F_second (t f g : Nat) : Fn := { np := 2, ns := 3, mask := [true, false], body := (.cons (.asg (.nm 2) (.call t (.cons (.var 0) (.cons (.int 10) .nil)) [])) (.cons (.ifs (.cmp .eq (.var 2) (.int 0)) (.cons (.ret (.var 1)) .nil) .nil) (.cons (.ifs (.cmp .eq (.var 2) (.int 1)) (.cons (.ret (.tup (.cons (.bin .sub (.int 0) (.ix (.var 1) (.int 0))) (.cons (.ix (.var 1) (.int 1)) .nil)))) .nil) .nil) (.cons (.ifs (.and (.cons (.cmp .eq (.var 2) (.int 2)) (.cons (.cmp .ne (.ix (.var 1) (.int 0)) (.int 0)) .nil))) (.cons (.ret (.call f (.cons (.ix (.var 1) (.int 1)) (.cons (.ix (.var 1) (.int 0)) .nil)) [])) .nil) .nil) (.cons (.ifs (.cmp .eq (.var 2) (.int 3)) (.cons (.ret (.tup (.cons (.int 0) (.cons (.int 1) .nil)))) .nil) .nil) (.cons (.ifs (.cmp .eq (.var 2) (.int 4)) (.cons (.ret (.call f (.cons (.bin .add (.bin .mul (.ix (.var 1) (.int 0)) (.int 1000)) (.int 1)) (.cons (.bin .mul (.ix (.var 1) (.int 1)) (.int 1000)) .nil)) [])) .nil) .nil) (.cons (.ret (.call g (.cons (.var 0) .nil) [])) .nil))))))) }
theorem ok_second {Φ : Env} {t f g : Nat} (T : TakeOk Φ t) (F : FrNOk Φ f) (G : FbyOk Φ g) {ds : List D} {r : Ret} (h : phSec ds = some r) : ∃ n, runFn Φ n (F_second t f g) ds = some r := by
  obtain ⟨xs, p, rfl, e⟩ := glp_inv h
  split at e
  · rename_i hp
    obtain ⟨h0, h1, h2⟩ := hp
    refine ⟨0, Eq.trans ?_ e⟩
    have s1 := asg_nm (n := 0) (i := 2) (ev_take (s := [.own true (.list (xs.map .int)), .val (prD p), .no]) (i := 0) (p := true) (xs := xs) (m := 10) T rfl ev_ii (by decide) (by decide)) rfl
    unfold secS
    simp only
    generalize (takeS xs 10).1 = w at s1
    generalize (takeS xs 10).2 = R at s1
    have c : ∀ k : Int, ev Φ (.cmp .eq (.var 2) (.int k)) [.own true (.list (R.map .int)), .val (prD p), .val (.int w)] = .ok (.dt (.bool (decide (w = k)))) [.own true (.list (R.map .int)), .val (prD p), .val (.int w)] := fun k => ev_cmp (ev_vi rfl) ev_ii rfl rfl (eqB_int w k)
    have n0 : ∀ k : Int, w ≠ k → ∀ (x : Ss) (y : Ss), runs Φ 0 (.cons (.ifs (.cmp .eq (.var 2) (.int k)) x .nil) y) [.own true (.list (R.map .int)), .val (prD p), .val (.int w)] = runs Φ 0 y [.own true (.list (R.map .int)), .val (prD p), .val (.int w)] := fun k hk x y => by
      have := c k
      rw [decide_eq_false hk] at this
      exact (runs_nx ((ifs_false this).trans rfl))
    have y0 : ∀ k : Int, w = k → ∀ (x : S) (y : Ss) (q : D), run Φ 0 x [.own true (.list (R.map .int)), .val (prD p), .val (.int w)] = .ok (.rt false q) [.own true (.list (R.map .int)), .val (prD p), .val (.int w)] → runs Φ 0 (.cons (.ifs (.cmp .eq (.var 2) (.int k)) (.cons x .nil) .nil) y) [.own true (.list (R.map .int)), .val (prD p), .val (.int w)] = .ok (.rt false q) [.own true (.list (R.map .int)), .val (prD p), .val (.int w)] := fun k hk x y q hx => by
      have := c k
      rw [decide_eq_true hk] at this
      exact runs_rt ((ifs_true this).trans (runs_rt hx))
    have cz := ev_cmp (Φ := Φ) (op := .ne) (ev_ix0 (s := [.own true (.list (R.map .int)), .val (prD p), .val (.int w)]) (i := 1) (p := p) rfl) (ev_ii (i := 0)) rfl rfl (show cmpD .ne (.int p.1) (.int 0) = some (!decide (p.1 = 0)) by simp [cmpD])
    have i2 : ev Φ (.and (.cons (.cmp .eq (.var 2) (.int 2)) (.cons (.cmp .ne (.ix (.var 1) (.int 0)) (.int 0)) .nil))) [.own true (.list (R.map .int)), .val (prD p), .val (.int w)] = .ok (.dt (.bool (decide (w = 2 ∧ p.1 ≠ 0)))) [.own true (.list (R.map .int)), .val (prD p), .val (.int w)] := by
      have c2 := c 2
      by_cases h2' : w = 2
      · rw [decide_eq_true h2'] at c2
        rw [ev_and ((evAnd_t c2).trans (evAnd_1 cz))]
        simp [h2']
      · rw [decide_eq_false h2'] at c2
        rw [ev, evAnd, c2]
        · simp [h2']
        · intro z; cases z
    have done : ∀ (q : Int × Int) (R' : List Int), runs Φ 0 (F_second t f g).body [.own true (.list (xs.map .int)), .val (prD p), .no] = .ok (.rt false (prD q)) [.own true (.list (R'.map .int)), .val (prD p), .val (.int w)] → runFn Φ 0 (F_second t f g) [.list (xs.map .int), prD p] = some (.ok false (prD q) [.list (R'.map .int)]) := fun q R' hr =>
      (runFn_rt (f := F_second t f g) (ds := [.list (xs.map .int), prD p]) hr).trans rfl
    by_cases w0 : w = 0
    · rw [if_pos w0]
      exact done _ _ ((runs_nx s1).trans (y0 0 w0 _ _ _ (ret_dt (ev_vi rfl))))
    rw [if_neg w0]
    by_cases w1 : w = 1
    · rw [if_pos w1]
      exact done _ _ ((runs_nx s1).trans ((n0 0 w0 _ _).trans (y0 1 w1 _ _ _ (ret_dt (ev_tup (evs_cons (ev_sub ev_ii (ev_ix0 (p := p) rfl)) (evs_cons (ev_ix1 (p := p) rfl) evs_nil)) rfl rfl)))))
    rw [if_neg w1]
    by_cases w2 : w = 2 ∧ p.1 ≠ 0
    · rw [if_pos w2]
      rw [decide_eq_true w2] at i2
      exact done _ _ ((runs_nx s1).trans ((n0 0 w0 _ _).trans ((n0 1 w1 _ _).trans (runs_rt ((ifs_true i2).trans (runs_rt (ret_dt (ev_frN F (ev_ix1 (p := p) rfl) (ev_ix0 (p := p) rfl) w2.2 (smal250 (s250 (by omega)))))))))))
    rw [if_neg w2]
    rw [decide_eq_false w2] at i2
    by_cases w3 : w = 3
    · rw [if_pos w3]
      exact done _ _ ((runs_nx s1).trans ((n0 0 w0 _ _).trans ((n0 1 w1 _ _).trans ((runs_nx ((ifs_false i2).trans rfl)).trans (y0 3 w3 _ _ _ (ret_dt (ev_tup (evs_cons ev_ii (evs_cons ev_ii evs_nil)) rfl rfl)))))))
    rw [if_neg w3]
    by_cases w4 : w = 4
    · rw [if_pos w4]
      exact done _ _ ((runs_nx s1).trans ((n0 0 w0 _ _).trans ((n0 1 w1 _ _).trans ((runs_nx ((ifs_false i2).trans rfl)).trans ((n0 3 w3 _ _).trans (y0 4 w4 _ _ _ (ret_dt (ev_frN F (ev_add (ev_mul (ev_ix0 (p := p) rfl) ev_ii (mulB_l (by decide))) ev_ii) (ev_mul (ev_ix1 (p := p) rfl) ev_ii (mulB_l (by decide))) (by omega) (smal250 (s250 (by omega)))))))))))
    rw [if_neg w4]
    exact done _ _ ((runs_nx s1).trans ((n0 0 w0 _ _).trans ((n0 1 w1 _ _).trans ((runs_nx ((ifs_false i2).trans rfl)).trans ((n0 3 w3 _ _).trans ((n0 4 w4 _ _).trans (runs_rt (ret_dt (ev_fby (p := true) (xs := R) G rfl)))))))))
  · cases e

structure PPOk (Φ : Env) (t : Nat) (g : Int × Int → Int × Int → Int × Int) : Prop where
  fn : ∀ p q : Int × Int, okP p → okP q → Φ.fn t [prD p, prD q] = some (.ok false (prD (fr (g p q).1 (g p q).2)) [])
  mask : Φ.mask t = [false, false]
theorem mkPP {Φ : Env} {t : Nat} {g : Int × Int → Int × Int → Int × Int} (h : Φ.fn t = phPP g) (m : Φ.mask t = [false, false]) : PPOk Φ t g := ⟨fun p q h0 h1 => by rw [h]; show (if _ then _ else _) = _; rw [if_pos ⟨h0, h1⟩], m⟩
theorem ev_pp {Φ : Env} {t : Nat} {g : Int × Int → Int × Int → Int × Int} {e f : E} {s s1 s2 : Sl} {p q : Int × Int} (T : PPOk Φ t g) (he : ev Φ e s = .ok (.dt (prD p)) s1) (hf : ev Φ f s1 = .ok (.dt (prD q)) s2) (h0 : okP p) (h1 : okP q) :
    ev Φ (.call t (.cons e (.cons f .nil)) []) s = .ok (.dt (prD (fr (g p q).1 (g p q).2))) s2 := by
  simp [ev, evs, he, hf, T.mask, escM, esc, mskOk, brs, gets, Vl.get, T.fn p q h0 h1, backL, vlOf]
structure DivOk (Φ : Env) (t c : Nat) : Prop where
  fn : ∀ p q : Int × Int, okP p → okP q → q.1 ≠ 0 → Φ.fn t [prD p, prD q] = some (.ok false (prD (fr (p.1 * q.2) (p.2 * q.1))) [])
  no : ∀ p q : Int × Int, okP p → okP q → q.1 = 0 → Φ.fn t [prD p, prD q] = some (.ex c [] [])
  mask : Φ.mask t = [false, false]
theorem mkDiv {Φ : Env} {t c : Nat} (h : Φ.fn t = phDiv c) (m : Φ.mask t = [false, false]) : DivOk Φ t c :=
  ⟨fun p q h0 h1 hz => by rw [h]; show (if _ then (if _ then _ else _) else _) = _; rw [if_pos ⟨h0, h1⟩, if_neg hz], fun p q h0 h1 hz => by rw [h]; show (if _ then (if _ then _ else _) else _) = _; rw [if_pos ⟨h0, h1⟩, if_pos hz], m⟩
theorem ev_div {Φ : Env} {t c : Nat} {e f : E} {s s1 s2 : Sl} {p q : Int × Int} (T : DivOk Φ t c) (he : ev Φ e s = .ok (.dt (prD p)) s1) (hf : ev Φ f s1 = .ok (.dt (prD q)) s2) (h0 : okP p) (h1 : okP q) (hz : q.1 ≠ 0) :
    ev Φ (.call t (.cons e (.cons f .nil)) []) s = .ok (.dt (prD (fr (p.1 * q.2) (p.2 * q.1)))) s2 := by
  simp [ev, evs, he, hf, T.mask, escM, esc, mskOk, brs, gets, Vl.get, T.fn p q h0 h1 hz, backL, vlOf]
structure RkOk (Φ : Env) (t : Nat) : Prop where
  fn : ∀ p q : Int × Int, okP p → okP q → Φ.fn t [prD p, prD q] = some (.ok false (.int (rk (p.1 * q.2 - p.2 * q.1))) [])
  mask : Φ.mask t = [false, false]
theorem mkRk {Φ : Env} {t : Nat} (h : Φ.fn t = phRk) (m : Φ.mask t = [false, false]) : RkOk Φ t := ⟨fun p q h0 h1 => by rw [h]; show (if _ then _ else _) = _; rw [if_pos ⟨h0, h1⟩], m⟩
theorem ev_rkc {Φ : Env} {t : Nat} {e f : E} {s s1 s2 : Sl} {p q : Int × Int} (T : RkOk Φ t) (he : ev Φ e s = .ok (.dt (prD p)) s1) (hf : ev Φ f s1 = .ok (.dt (prD q)) s2) (h0 : okP p) (h1 : okP q) :
    ev Φ (.call t (.cons e (.cons f .nil)) []) s = .ok (.dt (.int (rk (p.1 * q.2 - p.2 * q.1)))) s2 := by
  simp [ev, evs, he, hf, T.mask, escM, esc, mskOk, brs, gets, Vl.get, T.fn p q h0 h1, backL, vlOf]
def phTT : List D → Option Ret := gpp fun p q => if okP p ∧ okP q then some (.ok false (.bool true) []) else none
structure TTOk (Φ : Env) (t : Nat) : Prop where
  fn : ∀ p q : Int × Int, okP p → okP q → Φ.fn t [prD p, prD q] = some (.ok false (.bool true) [])
  mask : Φ.mask t = [false, false]
theorem mkTT {Φ : Env} {t : Nat} (h : Φ.fn t = phTT) (m : Φ.mask t = [false, false]) : TTOk Φ t := ⟨fun p q h0 h1 => by rw [h]; show (if _ then _ else _) = _; rw [if_pos ⟨h0, h1⟩], m⟩
theorem ev_tt {Φ : Env} {t : Nat} {e f : E} {s s1 s2 : Sl} {p q : Int × Int} (T : TTOk Φ t) (he : ev Φ e s = .ok (.dt (prD p)) s1) (hf : ev Φ f s1 = .ok (.dt (prD q)) s2) (h0 : okP p) (h1 : okP q) :
    ev Φ (.call t (.cons e (.cons f .nil)) []) s = .ok (.dt (.bool true)) s2 := by
  simp [ev, evs, he, hf, T.mask, escM, esc, mskOk, brs, gets, Vl.get, T.fn p q h0 h1, backL, vlOf]
theorem ev_wh {Φ : Env} {t : Nat} {e : E} {s s1 : Sl} {a : Int} (T : WholeOk Φ t) (he : ev Φ e s = .ok (.dt (.int a)) s1) : ev Φ (.call t (.cons e .nil) []) s = .ok (.dt (.bool true)) s1 := by
  simp [ev, evs, he, T.mask, escM, esc, mskOk, brs, gets, Vl.get, T.fn a, backL, vlOf]
end Mi

/-! MiO: lowest terms of lists (points). -/
namespace Mi
open PySem
theorem gcdL_mul (k : Int) : ∀ (ns : List Int) (g : Nat), gcdL (g * k.natAbs) (ns.map fun n => n * k) = gcdL g ns * k.natAbs
  | [], g => rfl
  | n :: ns, g => by
    simp only [List.map_cons, gcdL]
    have e : Int.gcd ((g * k.natAbs : Nat) : Int) (n * k) = Int.gcd (g : Int) n * k.natAbs := by
      have : Int.gcd ((g * k.natAbs : Nat) : Int) (n * k) = Int.gcd ((g : Int) * k) (n * k) := by
        simp [Int.gcd, Int.natAbs_mul]
      rw [this, Int.gcd_mul_right]
    rw [e]
    exact gcdL_mul k ns _
theorem gcdL_dvd : ∀ (ns : List Int) (g : Nat), gcdL g ns ∣ g ∧ ∀ n ∈ ns, (gcdL g ns : Int) ∣ n
  | [], g => ⟨Nat.dvd_refl _, fun n h => by simp at h⟩
  | m :: ns, g => by
    obtain ⟨h1, h2⟩ := gcdL_dvd ns (Int.gcd g m)
    simp only [gcdL]
    have d1 : Int.gcd (g : Int) m ∣ g := Int.natCast_dvd_natCast.mp (Int.gcd_dvd_left ..)
    refine ⟨Nat.dvd_trans h1 d1, fun n h => ?_⟩
    rcases List.mem_cons.mp h with rfl | h
    · exact Int.dvd_trans (Int.natCast_dvd_natCast.mpr h1) (Int.gcd_dvd_right ..)
    · exact h2 n h
/-- a list in lowest terms -/
def lowL (ns : List Int) : List Int := ns.map fun n => n / (gcdL 0 ns : Int)
theorem lowL_mul {ns : List Int} {k : Int} (hk : 0 < k) (hg : gcdL 0 ns ≠ 0) : lowL (ns.map fun n => n * k) = lowL ns := by
  have e := gcdL_mul k ns 0
  rw [Nat.zero_mul] at e
  unfold lowL
  rw [e, List.map_map]
  refine List.map_congr_left fun n _ => ?_
  show n * k / ((gcdL 0 ns * k.natAbs : Nat) : Int) = n / (gcdL 0 ns : Int)
  have : ((gcdL 0 ns * k.natAbs : Nat) : Int) = (gcdL 0 ns : Int) * k := by
    rw [Int.natCast_mul]
    congr 1
    omega
  rw [this, Int.mul_ediv_mul_of_pos_left _ _ hk]

theorem fdivs {ns : List Int} : (ns.map fun n => n.fdiv (gcdL 0 ns : Int)) = lowL ns := by
  unfold lowL
  refine List.map_congr_left fun n _ => ?_
  exact Int.fdiv_eq_ediv_of_nonneg _ (by omega)
def okL (ns : List Int) : Prop := ns.length ≤ 1000 ∧ gcdL 0 ns ≠ 0 ∧ smal (gcdL 0 ns)
instance (ns : List Int) : Decidable (okL ns) := inferInstanceAs (Decidable (_ ∧ _ ∧ _))
theorem divB_L {ns : List Int} (h : okL ns) : divB (gcdL 0 ns) = true := by
  obtain ⟨_, h1, h2⟩ := h
  unfold smal at h2
  have h3 : ((gcdL 0 ns : Nat) : Int).natAbs.log2 < 9000 := by omega
  have h4 : ((gcdL 0 ns : Nat) : Int) ≠ 0 := by omega
  simp only [divB, h3, h4, ne_eq, not_false_eq_true, decide_true, Bool.and_self]
theorem run_lowestL {Φ : Env} {t : Nat} (T : GcdOk Φ t) {X : D} {ns : List Int} (hX : Seq X ns) (h : okL ns) : runFn Φ 0 (F_low t .lt 2) [X] = some (.ok false (.tuple ((lowL ns).map .int)) []) := by
  rw [run_low (b := decide ((gcdL 0 ns : Int) < 2)) T hX h.1 rfl (fun _ => divB_L h)]
  by_cases h2 : (gcdL 0 ns : Int) < 2
  · have e1 : gcdL 0 ns = 1 := by have := h.2.1; omega
    rw [decide_eq_true h2, if_pos rfl]
    unfold lowL
    rw [e1]
    simp
  · rw [decide_eq_false h2, if_neg Bool.false_ne_true, fdivs]
theorem run_lawlowL {Φ : Env} {t : Nat} (T : GcdOk Φ t) {X : D} {ns : List Int} (hX : Seq X ns) (h : okL ns) : runFn Φ 0 (F_low t .eq 0) [X] = some (.ok false (.tuple ((lowL ns).map .int)) []) := by
  rw [run_low (b := false) T hX h.1 (by have := h.2.1; simp [cmpD]; omega) (fun _ => divB_L h), if_neg Bool.false_ne_true, fdivs]
/-- whole numbers in a list or a tuple -/
def gseq (g : List Int → Option Ret) : List D → Option Ret
  | [.tuple ds] => (intsOf ds).bind g
  | [.list ds] => (intsOf ds).bind g
  | _ => none
theorem gseq_inv {g : List Int → Option Ret} {ds : List D} {r : Ret} (h : gseq g ds = some r) : ∃ X ns, Seq X ns ∧ ds = [X] ∧ g ns = some r := by
  unfold gseq at h
  split at h
  · obtain ⟨ns, e, q⟩ := Option.bind_eq_some_iff.mp h
    exact ⟨_, ns, .inl (by rw [intsOf_some e]), rfl, q⟩
  · obtain ⟨ns, e, q⟩ := Option.bind_eq_some_iff.mp h
    exact ⟨_, ns, .inr (by rw [intsOf_some e]), rfl, q⟩
  · cases h
def phLowL : List D → Option Ret := gseq fun ns => if okL ns then some (.ok false (.tuple ((lowL ns).map .int)) []) else none
theorem ok_lowestL {Φ : Env} {t : Nat} (T : GcdOk Φ t) {ds : List D} {r : Ret} (h : phLowL ds = some r) : ∃ n, runFn Φ n (F_low t .lt 2) ds = some r := by
  obtain ⟨X, ns, hX, rfl, e⟩ := gseq_inv h
  split at e
  · rename_i hb
    exact ⟨0, (run_lowestL T hX hb).trans e⟩
  · cases e
theorem ok_lawlowL {Φ : Env} {t : Nat} (T : GcdOk Φ t) {ds : List D} {r : Ret} (h : phLowL ds = some r) : ∃ n, runFn Φ n (F_low t .eq 0) ds = some r := by
  obtain ⟨X, ns, hX, rfl, e⟩ := gseq_inv h
  split at e
  · rename_i hb
    exact ⟨0, (run_lawlowL T hX hb).trans e⟩
  · cases e

structure LowLOk (Φ : Env) (t : Nat) : Prop where
  tup : ∀ ns : List Int, okL ns → Φ.fn t [.tuple (ns.map .int)] = some (.ok false (.tuple ((lowL ns).map .int)) [])
  lst : ∀ ns : List Int, okL ns → Φ.fn t [.list (ns.map .int)] = some (.ok false (.tuple ((lowL ns).map .int)) [])
  mask : Φ.mask t = [false]
theorem mkLowL {Φ : Env} {t : Nat} (h : Φ.fn t = phLowL) (m : Φ.mask t = [false]) : LowLOk Φ t :=
  ⟨fun ns h0 => by
    rw [h]
    show (intsOf _).bind _ = _
    rw [intsOf_map]
    show (if _ then _ else _) = _
    rw [if_pos h0], fun ns h0 => by
    rw [h]
    show (intsOf _).bind _ = _
    rw [intsOf_map]
    show (if _ then _ else _) = _
    rw [if_pos h0], m⟩
/-- a call with a list or a tuple of whole numbers, new or not -/
theorem ev_lowL {Φ : Env} {t : Nat} {e : E} {s s1 : Sl} {ns : List Int} (T : LowLOk Φ t) (he : ev Φ e s = .ok (.nw (.list (ns.map .int))) s1) (h : okL ns) : ev Φ (.call t (.cons e .nil) []) s = .ok (.dt (.tuple ((lowL ns).map .int))) s1 := by
  simp [ev, evs, he, T.mask, escM, esc, mskOk, brs, gets, Vl.get, T.lst ns h, backL, vlOf]

def gseqi (g : List Int → Int → Option Ret) : List D → Option Ret
  | [.tuple ds, .int b] => (intsOf ds).bind fun ns => g ns b
  | [.list ds, .int b] => (intsOf ds).bind fun ns => g ns b
  | _ => none
theorem gseqi_inv {g : List Int → Int → Option Ret} {ds : List D} {r : Ret} (h : gseqi g ds = some r) : ∃ X ns b, Seq X ns ∧ ds = [X, .int b] ∧ g ns b = some r := by
  unfold gseqi at h
  split at h
  · obtain ⟨ns, e, q⟩ := Option.bind_eq_some_iff.mp h
    exact ⟨_, ns, _, .inl (by rw [intsOf_some e]), rfl, q⟩
  · obtain ⟨ns, e, q⟩ := Option.bind_eq_some_iff.mp h
    exact ⟨_, ns, _, .inr (by rw [intsOf_some e]), rfl, q⟩
  · cases h
theorem Seq.lst {X : D} {ns : List Int} (h : Seq X ns) : bltD .list [X] = some (.nw (.list (ns.map .int))) := by rcases h with rfl | rfl <;> rfl
/-- list(numbers) + [e] -/
theorem ev_app {Φ : Env} {s : Sl} {i j : Nat} {X : D} {ns : List Int} {b : Int} (hX : Seq X ns) (h : s[i]? = some (.val X)) (hb : s[j]? = some (.val (.int b))) (hn : ns.length ≤ 1000) :
    ev Φ (.bin .add (.blt .list (.cons (.var i) .nil)) (.lst (.cons (.var j) .nil))) s = .ok (.nw (.list ((ns ++ [b]).map .int))) s := by
  have hz : ns.length + 1 ≤ sizeLine := Nat.le_trans (by omega : ns.length + 1 ≤ 1001) (by decide)
  have e1 : ev Φ (.blt .list (.cons (.var i) .nil)) s = .ok (.nw (.list (ns.map .int))) s := by
    rw [ev, evs_cons (ev_vi h) evs_nil]
    simp [gets, Vl.get, hX.lst, ofO]
  have e2 : ev Φ (.lst (.cons (.var j) .nil)) s = .ok (.nw (.list [.int b])) s := ev_lst (evs_cons (ev_vi hb) evs_nil) rfl rfl
  exact ev_bin e1 e2 rfl rfl (by simp [binD, sizeB, hz])

theorem neg_lc {Φ : Env} (X : D) (b : Int) : ∀ (ns : List Int) (acc : List D), acc.length + ns.length ≤ 1000 →
    lcGo [2] (bindD (.nm 2)) (fun s => evC Φ .no s) (fun s => ev Φ (.neg (.var 2)) s) (ns.map .int) acc [.val X, .val (.int b), .no] = .ok (acc ++ (ns.map fun n => -n).map .int) [.val X, .val (.int b), .no]
  | [], acc, h => by simp [lcGo]
  | n :: ns, acc, h => by
    have hs : (1000 : Nat) < sizeLine := by decide
    have hl : acc.length < sizeLine := by simp at h; omega
    have e1 : ev Φ (.neg (.var 2)) [.val X, .val (.int b), .val (.int n)] = .ok (.dt (.int (-n))) [.val X, .val (.int b), .val (.int n)] := by simp [ev, Vl.get]
    have ih := neg_lc (Φ := Φ) X b ns (acc ++ [.int (-n)]) (by simp at h ⊢; omega)
    rw [List.map_cons, lcGo_step (s1 := [.val X, .val (.int b), .val (.int n)]) rfl (by rw [evC]) e1 rfl hl]
    refine Eq.trans ih ?_
    simp
def ptL (ns : List Int) (b : Int) : List Int := if b < 0 then (ns ++ [b]).map (fun n => -n) else ns ++ [b]
def phPoint (c : Nat) : List D → Option Ret := gseqi fun ns b => if b = 0 then some (.ex c [] []) else if ns.length ≤ 1000 ∧ okL (ptL ns b) then some (.ok false (.tuple ((lowL (ptL ns b)).map .int)) []) else none
def F_point (t c : Nat) : Fn := { np := 2, ns := 3, mask := [false, false], body := (.cons (.ifs (.cmp .eq (.var 1) (.int 0)) (.cons (.raisT c) .nil) .nil) (.cons (.ifs (.cmp .lt (.var 1) (.int 0)) (.cons (.ret (.call t (.cons (.bin .add (.lc (.neg (.var 2)) (.nm 2) (.e (.var 0)) .no [2]) (.lst (.cons (.neg (.var 1)) .nil))) .nil) [])) .nil) .nil) (.cons (.ret (.call t (.cons (.bin .add (.blt .list (.cons (.var 0) .nil)) (.lst (.cons (.var 1) .nil))) .nil) [])) .nil))) }
theorem ok_point {Φ : Env} {t c : Nat} (T : LowLOk Φ t) {ds : List D} {r : Ret} (h : phPoint c ds = some r) : ∃ n, runFn Φ n (F_point t c) ds = some r := by
  obtain ⟨X, ns, b, hX, rfl, e⟩ := gseqi_inv h
  refine ⟨0, Eq.trans ?_ e⟩
  have c1 := ev_cmp (Φ := Φ) (op := .eq) (ev_vi (s := [.val X, .val (.int b), .no]) (i := 1) (d := .int b) rfl) (ev_ii (i := 0)) rfl rfl (eqB_int b 0)
  have c2 := ev_cmp (Φ := Φ) (op := .lt) (ev_vi (s := [.val X, .val (.int b), .no]) (i := 1) (d := .int b) rfl) (ev_ii (i := 0)) rfl rfl (show cmpD .lt (.int b) (.int 0) = some (decide (b < 0)) from rfl)
  by_cases h0 : b = 0
  · rw [if_pos h0]
    rw [decide_eq_true h0] at c1
    have rr : runs Φ 0 (F_point t c).body [.val X, .val (.int b), .no] = .ex c [] [.val X, .val (.int b), .no] := runs_ex ((ifs_true c1).trans (runs_ex (by rw [run])))
    exact (runFn_ex (f := F_point t c) (ds := [X, .int b]) rr).trans rfl
  · rw [if_neg h0] at e ⊢
    rw [decide_eq_false h0] at c1
    split at e
    · rename_i hb
      rw [if_pos hb]
      obtain ⟨hn, hk⟩ := hb
      unfold ptL at hk ⊢
      by_cases h1 : b < 0
      · rw [if_pos h1] at hk ⊢
        rw [decide_eq_true h1] at c2
        have hz : ns.length + 1 ≤ sizeLine := Nat.le_trans (by omega : ns.length + 1 ≤ 1001) (by decide)
        have it : evIt Φ (.e (.var 0)) [.val X, .val (.int b), .no] = .ok (ns.map .int) [.val X, .val (.int b), .no] := by
          rw [evIt, ev_vi rfl]
          simp [esc, hX.items, ofO]
        have l : ev Φ (.lc (.neg (.var 2)) (.nm 2) (.e (.var 0)) .no [2]) [.val X, .val (.int b), .no] = .ok (.nw (.list ((ns.map fun n => -n).map .int))) [.val X, .val (.int b), .no] := by
          have cl : clean [.val X, .val (.int b), .no] [2] = true := rfl
          rw [ev, it]
          simp only [cl, if_true, neg_lc X b ns [] (by simpa using hn), List.nil_append]
        have l2 : ev Φ (.lst (.cons (.neg (.var 1)) .nil)) [.val X, .val (.int b), .no] = .ok (.nw (.list [.int (-b)])) [.val X, .val (.int b), .no] := ev_lst (evs_cons (v := .dt (.int (-b))) (by simp [ev, Vl.get]) evs_nil) rfl rfl
        have a := ev_bin (op := .add) (r := .nw (.list (((ns ++ [b]).map fun n => -n).map .int))) l l2 rfl rfl (by simp [binD, sizeB, hz])
        exact (runFn_rt (f := F_point t c) (ds := [X, .int b]) ((runs_nx ((ifs_false c1).trans rfl)).trans (runs_rt ((ifs_true c2).trans (runs_rt (ret_dt (ev_lowL T a hk))))))).trans rfl
      · rw [if_neg h1] at hk ⊢
        rw [decide_eq_false h1] at c2
        exact (runFn_rt (f := F_point t c) (ds := [X, .int b]) ((runs_nx ((ifs_false c1).trans rfl)).trans ((runs_nx ((ifs_false c2).trans rfl)).trans (runs_rt (ret_dt (ev_lowL T (ev_app hX rfl rfl hn) hk)))))).trans rfl
    · cases e
end Mi

/-! MiP: the interpreter grows with what its calls tell; the least table of calls. -/
namespace Mi
open PySem
def Evn (p : Nat → Prop) : Prop := ∃ d, ∀ d', d ≤ d' → p d'
theorem Evn.and {p q : Nat → Prop} (h : Evn p) (h' : Evn q) : Evn fun d => p d ∧ q d := by
  obtain ⟨a, ha⟩ := h
  obtain ⟨b, hb⟩ := h'
  exact ⟨max a b, fun d hd => ⟨ha d (by omega), hb d (by omega)⟩⟩
theorem Evn.mono {p q : Nat → Prop} (h : Evn p) (f : ∀ d, p d → q d) : Evn q := by
  obtain ⟨a, ha⟩ := h
  exact ⟨a, fun d hd => f d (ha d hd)⟩
theorem Evn.all {p : Nat → Prop} (h : ∀ d, p d) : Evn p := ⟨0, fun d _ => h d⟩
/-- the row of answers comes to x, where x is an answer -/
def Lz {α : Type} (x : R α) (f : Nat → R α) : Prop := x = .no ∨ Evn fun d => f d = x
theorem Lz.rfl' {α : Type} {x : R α} : Lz x fun _ => x := .inr (.all fun _ => rfl)
theorem Lz.of {α : Type} {x : R α} {f : Nat → R α} (h : ∀ d, f d = x) : Lz x f := .inr (.all h)
structure Gr (Φ : Env) (Ψ : Nat → Env) : Prop where
  fn : ∀ k ds r, Φ.fn k ds = some r → Evn fun d => (Ψ d).fn k ds = some r
  mask : ∀ d k, (Ψ d).mask k = Φ.mask k
  glb : ∀ d k, (Ψ d).glb k = Φ.glb k
  under : ∀ d a b, (Ψ d).under a b = Φ.under a b
theorem lz_lcGo (vs : List Nat) (bd : D → Sl → Option Sl) {tst : Sl → R Bool} {el : Sl → R Vl} {tst' : Nat → Sl → R Bool} {el' : Nat → Sl → R Vl} (h1 : ∀ s, Lz (tst s) fun d => tst' d s) (h2 : ∀ s, Lz (el s) fun d => el' d s) :
    ∀ (ds acc : List D) (s : Sl), Lz (lcGo vs bd tst el ds acc s) fun d => lcGo vs bd (tst' d) (el' d) ds acc s
  | [], acc, s => .of fun _ => rfl
  | d :: ds, acc, s => by
    cases hb : bd d (wipeS s vs) with
    | none => exact .inl (by simp only [lcGo, hb])
    | some s1 =>
      rcases h1 s1 with h | h
      · exact .inl (by simp only [lcGo, hb, h])
      · cases ht : tst s1 with
        | no => exact .inl (by simp only [lcGo, hb, ht])
        | ex c as s2 => exact .inl (by simp only [lcGo, hb, ht])
        | ok b s2 =>
          rw [ht] at h
          cases b with
          | false =>
            rcases lz_lcGo vs bd h1 h2 ds acc (rstS s s2 vs) with q | q
            · exact .inl (by simp only [lcGo, hb, ht, q])
            · exact .inr ((h.and q).mono fun d ⟨e1, e2⟩ => by simp only [lcGo, hb, ht, e1, e2])
          | true =>
            rcases h2 s2 with h3 | h3
            · exact .inl (by simp only [lcGo, hb, ht, h3])
            · cases hl : el s2 with
              | no => exact .inl (by simp only [lcGo, hb, ht, hl])
              | ex c as s3 => exact .inl (by simp only [lcGo, hb, ht, hl])
              | ok v s3 =>
                rw [hl] at h3
                cases he : esc s3 v with
                | none => exact .inl (by simp only [lcGo, hb, ht, hl, he])
                | some p =>
                  obtain ⟨d', s4⟩ := p
                  by_cases hz : acc.length < sizeLine
                  · rcases lz_lcGo vs bd h1 h2 ds (acc ++ [d']) (rstS s s4 vs) with q | q
                    · exact .inl (by simp only [lcGo, hb, ht, hl, he, q]; split <;> rfl)
                    · exact .inr (((h.and h3).and q).mono fun d ⟨⟨e1, e2⟩, e3⟩ => by simp only [lcGo, hb, ht, hl, he, e1, e2, e3])
                  · exact .inl (by simp only [lcGo, hb, ht, hl, he, hz, decide_false, Bool.false_eq_true, if_false])
section
variable {Φ : Env} {Ψ : Nat → Env} (G : Gr Φ Ψ)
include G
mutual
theorem lz_ev : ∀ (e : E) (s : Sl), Lz (ev Φ e s) fun d => ev (Ψ d) e s
  | .int i, s => .of fun _ => by simp only [ev]
  | .bl i, s => .of fun _ => by simp only [ev]
  | .non, s => .of fun _ => by simp only [ev]
  | .str i, s => .of fun _ => by simp only [ev]
  | .var i, s => .of fun _ => by simp only [ev]
  | .glb k, s => .of fun d => by simp only [ev, G.glb d]
  | .bin op a b, s => by
    rcases lz_ev a s with h | h
    · exact .inl (by simp only [ev, h])
    · cases hx : ev Φ a s with
      | no => exact .inl (by simp only [ev, hx])
      | ex c as s1 => exact .inr (h.mono fun d e => by simp only [ev, e, hx])
      | ok x s1 =>
        rcases lz_ev b s1 with h2 | h2
        · exact .inl (by simp only [ev, hx, h2])
        · exact .inr ((h.and h2).mono fun d ⟨e1, e2⟩ => by simp only [ev, e1, hx, e2])
  | .neg a, s => by
    rcases lz_ev a s with h | h
    · exact .inl (by simp only [ev, h])
    · exact .inr (h.mono fun d e => by simp only [ev, e])
  | .not a, s => by
    rcases lz_ev a s with h | h
    · exact .inl (by simp only [ev, h])
    · exact .inr (h.mono fun d e => by simp only [ev, e])
  | .cmp op a b, s => by
    rcases lz_ev a s with h | h
    · exact .inl (by simp only [ev, h])
    · cases hx : ev Φ a s with
      | no => exact .inl (by simp only [ev, hx])
      | ex c as s1 => exact .inr (h.mono fun d e => by simp only [ev, e, hx])
      | ok x s1 =>
        rcases lz_ev b s1 with h2 | h2
        · exact .inl (by simp only [ev, hx, h2])
        · exact .inr ((h.and h2).mono fun d ⟨e1, e2⟩ => by simp only [ev, e1, hx, e2])
  | .chain op op' a b c, s => by
    rcases lz_ev a s with h | h
    · exact .inl (by simp only [ev, h])
    · cases hx : ev Φ a s with
      | no => exact .inl (by simp only [ev, hx])
      | ex c as s1 => exact .inr (h.mono fun d e => by simp only [ev, e, hx])
      | ok x s1 =>
        rcases lz_ev b s1 with h2 | h2
        · exact .inl (by simp only [ev, hx, h2])
        · cases hy : ev Φ b s1 with
          | no => exact .inl (by simp only [ev, hx, hy])
          | ex c as s2 => exact .inr ((h.and h2).mono fun d ⟨e1, e2⟩ => by simp only [ev, e1, hx, e2, hy])
          | ok y s2 =>
            cases g1 : x.get s2 with
            | none => exact .inl (by simp only [ev, hx, hy, g1])
            | some dx =>
              cases g2 : y.get s2 with
              | none => exact .inl (by simp only [ev, hx, hy, g1, g2])
              | some dy =>
                cases g3 : cmpD op dx dy with
                | none => exact .inl (by simp only [ev, hx, hy, g1, g2, g3])
                | some b0 =>
                  cases b0 with
                  | false => exact .inr ((h.and h2).mono fun d ⟨e1, e2⟩ => by simp only [ev, e1, hx, e2, hy, g1, g2, g3])
                  | true =>
                    rcases lz_ev c s2 with h3 | h3
                    · exact .inl (by simp only [ev, hx, hy, g1, g2, g3, h3])
                    · exact .inr (((h.and h2).and h3).mono fun d ⟨⟨e1, e2⟩, e3⟩ => by simp only [ev, e1, hx, e2, hy, g1, g2, g3, e3])
  | .and es, s => by simp only [ev]; exact lz_evAnd es s
  | .or es, s => by simp only [ev]; exact lz_evOr es s
  | .ifx t a b, s => by
    rcases lz_ev t s with h | h
    · exact .inl (by simp only [ev, h])
    · cases hx : ev Φ t s with
      | no => exact .inl (by simp only [ev, hx])
      | ex c as s1 => exact .inr (h.mono fun d e => by simp only [ev, e, hx])
      | ok x s1 =>
        cases x with
        | nw _ => exact .inl (by simp only [ev, hx])
        | br _ => exact .inl (by simp only [ev, hx])
        | dt v =>
          cases v with
          | bool b0 =>
            cases b0 with
            | true =>
              rcases lz_ev a s1 with h2 | h2
              · exact .inl (by simp only [ev, hx, h2])
              · exact .inr ((h.and h2).mono fun d ⟨e1, e2⟩ => by simp only [ev, e1, hx, e2])
            | false =>
              rcases lz_ev b s1 with h2 | h2
              · exact .inl (by simp only [ev, hx, h2])
              · exact .inr ((h.and h2).mono fun d ⟨e1, e2⟩ => by simp only [ev, e1, hx, e2])
          | _ => exact .inl (by simp only [ev, hx])
  | .tup es, s => by
    rcases lz_evs es s with h | h
    · exact .inl (by simp only [ev, h])
    · exact .inr (h.mono fun d e => by simp only [ev, e])
  | .lst es, s => by
    rcases lz_evs es s with h | h
    · exact .inl (by simp only [ev, h])
    · exact .inr (h.mono fun d e => by simp only [ev, e])
  | .ix a b, s => by
    rcases lz_ev a s with h | h
    · exact .inl (by simp only [ev, h])
    · cases hx : ev Φ a s with
      | no => exact .inl (by simp only [ev, hx])
      | ex c as s1 => exact .inr (h.mono fun d e => by simp only [ev, e, hx])
      | ok x s1 =>
        rcases lz_ev b s1 with h2 | h2
        · exact .inl (by simp only [ev, hx, h2])
        · exact .inr ((h.and h2).mono fun d ⟨e1, e2⟩ => by simp only [ev, e1, hx, e2])
  | .slc a lo hi, s => by
    rcases lz_ev a s with h | h
    · exact .inl (by simp only [ev, h])
    · cases hx : ev Φ a s with
      | no => exact .inl (by simp only [ev, hx])
      | ex c as s1 => exact .inr (h.mono fun d e => by simp only [ev, e, hx])
      | ok x s1 =>
        rcases lz_evo lo s1 with h2 | h2
        · exact .inl (by simp only [ev, hx, h2])
        · cases hy : evo Φ lo s1 with
          | no => exact .inl (by simp only [ev, hx, hy])
          | ex c as s2 => exact .inr ((h.and h2).mono fun d ⟨e1, e2⟩ => by simp only [ev, e1, hx, e2, hy])
          | ok y s2 =>
            rcases lz_evo hi s2 with h3 | h3
            · exact .inl (by simp only [ev, hx, hy, h3])
            · exact .inr (((h.and h2).and h3).mono fun d ⟨⟨e1, e2⟩, e3⟩ => by simp only [ev, e1, hx, e2, hy, e3])
  | .rev a lo hi, s => by
    rcases lz_ev a s with h | h
    · exact .inl (by simp only [ev, h])
    · exact .inr (h.mono fun d e => by simp only [ev, e])
  | .call f es dv, s => by
    rcases lz_evs es s with h | h
    · exact .inl (by simp only [ev, h])
    · cases hx : evs Φ es s with
      | no => exact .inl (by simp only [ev, hx])
      | ex c as s1 => exact .inr (h.mono fun d e => by simp only [ev, e, hx])
      | ok vs s1 =>
        cases g1 : escM (Φ.mask f) vs s1 with
        | none => exact .inl (by simp only [ev, hx, g1])
        | some s2 =>
          cases g2 : gets s2 vs with
          | none => exact .inl (by simp only [ev, hx, g1, g2]; split <;> rfl)
          | some ds =>
            cases g3 : Φ.fn f (ds ++ dv) with
            | none => exact .inl (by simp only [ev, hx, g1, g2, g3]; split <;> rfl)
            | some r => exact .inr ((h.and (G.fn _ _ _ g3)).mono fun d ⟨e1, e2⟩ => by simp only [ev, e1, hx, G.mask d, g1, g2, g3, e2])
  | .blt b es, s => by
    rcases lz_evs es s with h | h
    · exact .inl (by simp only [ev, h])
    · exact .inr (h.mono fun d e => by simp only [ev, e])
  | .isT a t, s => by
    rcases lz_ev a s with h | h
    · exact .inl (by simp only [ev, h])
    · exact .inr (h.mono fun d e => by simp only [ev, e])
  | .isE i cs, s => .of fun d => by simp only [ev, G.under d]
  | .fld i j, s => .of fun d => by simp only [ev]
  | .lc elt tg it cond vs, s => by
    rcases lz_evIt it s with h | h
    · exact .inl (by simp only [ev, h])
    · cases hx : evIt Φ it s with
      | no => exact .inl (by simp only [ev, hx])
      | ex c as s1 => exact .inr (h.mono fun d e => by simp only [ev, e, hx])
      | ok ds s1 =>
        rcases lz_lcGo vs (bindD tg) (tst' := fun d s => evC (Ψ d) cond s) (el' := fun d s => ev (Ψ d) elt s) (fun s => lz_evC cond s) (fun s => lz_ev elt s) ds [] s1 with q | q
        · exact .inl (by simp only [ev, hx, q]; split <;> rfl)
        · exact .inr ((h.and q).mono fun d ⟨e1, e2⟩ => by simp only [ev, e1, hx, e2])
  | .mth m i es, s => by
    rcases lz_evs es s with h | h
    · exact .inl (by simp only [ev, h]; split <;> rfl)
    · exact .inr (h.mono fun d e => by simp only [ev, e])
  | .tx m a b, s => by
    rcases lz_ev a s with h | h
    · exact .inl (by simp only [ev, h])
    · cases hx : ev Φ a s with
      | no => exact .inl (by simp only [ev, hx])
      | ex c as s1 => exact .inr (h.mono fun d e => by simp only [ev, e, hx])
      | ok x s1 =>
        rcases lz_ev b s1 with h2 | h2
        · refine .inl ?_
          simp only [ev, hx]
          cases x with
          | dt d => cases d <;> simp only [h2]
          | _ => rfl
        · refine .inr ((h.and h2).mono fun d ⟨e1, e2⟩ => ?_)
          simp only [ev, e1, hx]
          cases x with
          | dt d => cases d <;> simp only [e2]
          | _ => rfl
theorem lz_evs : ∀ (es : Es) (s : Sl), Lz (evs Φ es s) fun d => evs (Ψ d) es s
  | .nil, s => .of fun _ => by simp only [evs]
  | .cons e es, s => by
    rcases lz_ev e s with h | h
    · exact .inl (by simp only [evs, h])
    · cases hx : ev Φ e s with
      | no => exact .inl (by simp only [evs, hx])
      | ex c as s1 => exact .inr (h.mono fun d e => by simp only [evs, e, hx])
      | ok x s1 =>
        rcases lz_evs es s1 with h2 | h2
        · exact .inl (by simp only [evs, hx, h2])
        · exact .inr ((h.and h2).mono fun d ⟨e1, e2⟩ => by simp only [evs, e1, hx, e2])
theorem lz_evAnd : ∀ (es : Es) (s : Sl), Lz (evAnd Φ es s) fun d => evAnd (Ψ d) es s
  | .nil, s => .of fun _ => by simp only [evAnd]
  | .cons e .nil, s => by
    rcases lz_ev e s with h | h
    · exact .inl (by simp only [evAnd, h])
    · exact .inr (h.mono fun d e => by simp only [evAnd, e])
  | .cons e (.cons e' es), s => by
    rcases lz_ev e s with h | h
    · exact .inl (by simp only [evAnd, h])
    · cases hx : ev Φ e s with
      | no => exact .inl (by simp only [evAnd, hx])
      | ex c as s1 => exact .inr (h.mono fun d e => by simp only [evAnd, e, hx])
      | ok x s1 =>
        cases x with
        | nw _ => exact .inl (by simp only [evAnd, hx])
        | br _ => exact .inl (by simp only [evAnd, hx])
        | dt v =>
          cases v with
          | bool b0 =>
            cases b0 with
            | true =>
              rcases lz_evAnd (.cons e' es) s1 with h2 | h2
              · exact .inl (by simp only [evAnd.eq_3, hx, h2, reduceCtorEq, imp_self, false_imp_iff])
              · exact .inr ((h.and h2).mono fun d ⟨e1, e2⟩ => by simp only [evAnd.eq_3, e1, hx, e2, reduceCtorEq, imp_self, false_imp_iff])
            | false => exact .inr (h.mono fun d e => by simp only [evAnd, e, hx])
          | _ => exact .inl (by simp only [evAnd, hx])
theorem lz_evOr : ∀ (es : Es) (s : Sl), Lz (evOr Φ es s) fun d => evOr (Ψ d) es s
  | .nil, s => .of fun _ => by simp only [evOr]
  | .cons e .nil, s => by
    rcases lz_ev e s with h | h
    · exact .inl (by simp only [evOr, h])
    · exact .inr (h.mono fun d e => by simp only [evOr, e])
  | .cons e (.cons e' es), s => by
    rcases lz_ev e s with h | h
    · exact .inl (by simp only [evOr, h])
    · cases hx : ev Φ e s with
      | no => exact .inl (by simp only [evOr, hx])
      | ex c as s1 => exact .inr (h.mono fun d e => by simp only [evOr, e, hx])
      | ok x s1 =>
        cases x with
        | nw _ => exact .inl (by simp only [evOr, hx])
        | br _ => exact .inl (by simp only [evOr, hx])
        | dt v =>
          cases v with
          | bool b0 =>
            cases b0 with
            | false =>
              rcases lz_evOr (.cons e' es) s1 with h2 | h2
              · exact .inl (by simp only [evOr.eq_3, hx, h2, reduceCtorEq, imp_self, false_imp_iff])
              · exact .inr ((h.and h2).mono fun d ⟨e1, e2⟩ => by simp only [evOr.eq_3, e1, hx, e2, reduceCtorEq, imp_self, false_imp_iff])
            | true => exact .inr (h.mono fun d e => by simp only [evOr, e, hx])
          | _ => exact .inl (by simp only [evOr, hx])
theorem lz_evo : ∀ (e : Eo) (s : Sl), Lz (evo Φ e s) fun d => evo (Ψ d) e s
  | .no, s => .of fun _ => by simp only [evo]
  | .so e, s => by
    rcases lz_ev e s with h | h
    · exact .inl (by simp only [evo, h])
    · exact .inr (h.mono fun d e => by simp only [evo, e])
theorem lz_evC : ∀ (e : Eo) (s : Sl), Lz (evC Φ e s) fun d => evC (Ψ d) e s
  | .no, s => .of fun _ => by simp only [evC]
  | .so e, s => by
    rcases lz_ev e s with h | h
    · exact .inl (by simp only [evC, h])
    · exact .inr (h.mono fun d e => by simp only [evC, e])
theorem lz_evIt : ∀ (i : It) (s : Sl), Lz (evIt Φ i s) fun d => evIt (Ψ d) i s
  | .e e, s => by
    rcases lz_ev e s with h | h
    · exact .inl (by simp only [evIt, h])
    · exact .inr (h.mono fun d e => by simp only [evIt, e])
  | .rng1 e, s => by
    rcases lz_ev e s with h | h
    · exact .inl (by simp only [evIt, h])
    · exact .inr (h.mono fun d e => by simp only [evIt, e])
  | .rng2 a b, s => by
    rcases lz_ev a s with h | h
    · exact .inl (by simp only [evIt, h])
    · cases hx : ev Φ a s with
      | no => exact .inl (by simp only [evIt, hx])
      | ex c as s1 => exact .inr (h.mono fun d e => by simp only [evIt, e, hx])
      | ok x s1 =>
        rcases lz_ev b s1 with h2 | h2
        · refine .inl ?_
          simp only [evIt, hx, h2]
          split <;> first | rfl | (rename_i q; cases q; done) | simp_all
        · exact .inr ((h.and h2).mono fun d ⟨e1, e2⟩ => by
            simp only [evIt, e1, hx]
            split
            · rename_i q; cases q; simp only [e2]
            · rfl
            · rfl
            · rfl)
  | .enm e, s => by
    rcases lz_ev e s with h | h
    · exact .inl (by simp only [evIt, h])
    · exact .inr (h.mono fun d e => by simp only [evIt, e])
  | .zip a b, s => by
    rcases lz_ev a s with h | h
    · exact .inl (by simp only [evIt, h])
    · cases hx : ev Φ a s with
      | no => exact .inl (by simp only [evIt, hx])
      | ex c as s1 => exact .inr (h.mono fun d e => by simp only [evIt, e, hx])
      | ok x s1 =>
        rcases lz_ev b s1 with h2 | h2
        · exact .inl (by simp only [evIt, hx, h2])
        · exact .inr ((h.and h2).mono fun d ⟨e1, e2⟩ => by simp only [evIt, e1, hx, e2])
end
end
end Mi

/-! MiP2: statements; the program's own table of calls. -/
namespace Mi
open PySem
theorem lz_whlGo {tst : Sl → R Vl} {body : Sl → R Fl} {tst' : Nat → Sl → R Vl} {body' : Nat → Sl → R Fl} (h1 : ∀ s, Lz (tst s) fun d => tst' d s) (h2 : ∀ s, Lz (body s) fun d => body' d s) :
    ∀ (m m' : Nat) (s : Sl), m ≤ m' → Lz (whlGo tst body m s) fun d => whlGo (tst' d) (body' d) m' s
  | 0, m', s, _ => .inl rfl
  | m + 1, 0, s, h => absurd h (Nat.not_succ_le_zero m)
  | m + 1, m' + 1, s, hm => by
    rcases h1 s with h | h
    · exact .inl (by simp only [whlGo, h])
    · cases ht : tst s with
      | no => exact .inl (by simp only [whlGo, ht])
      | ex c as s1 => rw [ht] at h; exact .inr (h.mono fun d e => by simp only [whlGo, e, ht])
      | ok v s1 =>
        rw [ht] at h
        cases v with
        | nw _ => exact .inl (by simp only [whlGo, ht])
        | br _ => exact .inl (by simp only [whlGo, ht])
        | dt v =>
          cases v with
          | bool b =>
            cases b with
            | false => exact .inr (h.mono fun d e => by simp only [whlGo, e, ht])
            | true =>
              rcases h2 s1 with h3 | h3
              · exact .inl (by simp only [whlGo, ht, h3])
              · cases hb : body s1 with
                | no => exact .inl (by simp only [whlGo, ht, hb])
                | ex c as s2 => rw [hb] at h3; exact .inr ((h.and h3).mono fun d ⟨e, e2⟩ => by simp only [whlGo, e, ht, e2, hb])
                | ok f s2 =>
                  rw [hb] at h3
                  cases f with
                  | bk => exact .inr ((h.and h3).mono fun d ⟨e, e2⟩ => by simp only [whlGo, e, ht, e2, hb])
                  | rt w d => exact .inr ((h.and h3).mono fun d ⟨e, e2⟩ => by simp only [whlGo, e, ht, e2, hb])
                  | nx =>
                    rcases lz_whlGo h1 h2 m m' s2 (by omega) with h4 | h4
                    · exact .inl (by simp only [whlGo, ht, hb, h4])
                    · exact .inr (((h.and h3).and h4).mono fun d ⟨⟨e, e2⟩, e3⟩ => by simp only [whlGo, e, ht, e2, hb, e3])
                  | ct =>
                    rcases lz_whlGo h1 h2 m m' s2 (by omega) with h4 | h4
                    · exact .inl (by simp only [whlGo, ht, hb, h4])
                    · exact .inr (((h.and h3).and h4).mono fun d ⟨⟨e, e2⟩, e3⟩ => by simp only [whlGo, e, ht, e2, hb, e3])
          | _ => exact .inl (by simp only [whlGo, ht])
theorem lz_forGo {t : Tg} {body : Sl → R Fl} {body' : Nat → Sl → R Fl} (h2 : ∀ s, Lz (body s) fun d => body' d s) :
    ∀ (ds : List D) (s : Sl), Lz (forGo t body ds s) fun d => forGo t (body' d) ds s
  | [], s => .of fun _ => rfl
  | x :: ds, s => by
    cases hb : bindD t x s with
    | none => exact .inl (by simp only [forGo, hb])
    | some s1 =>
      rcases h2 s1 with h3 | h3
      · exact .inl (by simp only [forGo, hb, h3])
      · cases hf : body s1 with
        | no => exact .inl (by simp only [forGo, hb, hf])
        | ex c as s2 => rw [hf] at h3; exact .inr (h3.mono fun d e2 => by simp only [forGo, hb, e2, hf])
        | ok f s2 =>
          rw [hf] at h3
          cases f with
          | bk => exact .inr (h3.mono fun d e2 => by simp only [forGo, hb, e2, hf])
          | rt w d => exact .inr (h3.mono fun d e2 => by simp only [forGo, hb, e2, hf])
          | nx =>
            rcases lz_forGo (t := t) h2 ds s2 with h4 | h4
            · exact .inl (by simp only [forGo, hb, hf, h4])
            · exact .inr ((h3.and h4).mono fun d ⟨e2, e3⟩ => by simp only [forGo, hb, e2, hf, e3])
          | ct =>
            rcases lz_forGo (t := t) h2 ds s2 with h4 | h4
            · exact .inl (by simp only [forGo, hb, hf, h4])
            · exact .inr ((h3.and h4).mono fun d ⟨e2, e3⟩ => by simp only [forGo, hb, e2, hf, e3])
section
variable {Φ : Env} {Ψ : Nat → Env} (G : Gr Φ Ψ)
include G
theorem lz_setIxR (i : Nat) (ix e : E) (s : Sl) : Lz (setIxR Φ i ix e s) fun d => setIxR (Ψ d) i ix e s := by
    rcases lz_ev G e s with h | h
    · exact .inl (by simp only [setIxR, h])
    · cases hx : ev Φ e s with
      | no => exact .inl (by simp only [setIxR, hx])
      | ex c as s1 => exact .inr (h.mono fun d e => by simp only [setIxR, e, hx])
      | ok x s1 =>
        cases he : esc s1 x with
        | none => exact .inl (by simp only [setIxR, hx, he])
        | some p =>
          obtain ⟨d0, s2⟩ := p
          rcases lz_ev G ix s2 with h2 | h2
          · exact .inl (by simp only [setIxR, hx, he, h2]; split <;> rfl)
          · exact .inr ((h.and h2).mono fun d ⟨e1, e2⟩ => by simp only [setIxR, e1, hx, he, e2])
theorem lz_kuhnA {iC iK : Nat} {e : E} : ∀ (ds : List D) (acc : List (List Int)) (s : Sl), Lz (kuhnA Φ iC iK e ds acc s) fun d => kuhnA (Ψ d) iC iK e ds acc s
  | [], acc, s => .of fun _ => rfl
  | x :: ds, acc, s => by
    cases hb : bindD (.nm iK) x s with
    | none => exact .inl (by simp only [kuhnA, hb])
    | some s1 =>
      rcases lz_setIxR G iC e (.int 1) s1 with h3 | h3
      · exact .inl (by simp only [kuhnA, hb, h3])
      · cases hf : setIxR Φ iC e (.int 1) s1 with
        | no => exact .inl (by simp only [kuhnA, hb, hf])
        | ex c as s2 => exact .inl (by simp only [kuhnA, hb, hf])
        | ok f s2 =>
          rw [hf] at h3
          cases f with
          | bk => exact .inl (by simp only [kuhnA, hb, hf])
          | ct => exact .inl (by simp only [kuhnA, hb, hf])
          | rt w d => exact .inl (by simp only [kuhnA, hb, hf])
          | nx =>
            cases hi : intsAt s2 iC with
            | none => exact .inl (by simp only [kuhnA, hb, hf, hi])
            | some ns =>
              rcases lz_kuhnA (iC := iC) (iK := iK) (e := e) ds (acc ++ [ns]) s2 with h4 | h4
              · exact .inl (by simp only [kuhnA, hb, hf, hi, h4]; split <;> rfl)
              · exact .inr ((h3.and h4).mono fun d ⟨e1, e2⟩ => by simp only [kuhnA, hb, hf, hi, e1, e2])
theorem lz_kuhnB {iC iM : Nat} {t : E} : ∀ (ds : List D) (acc : List (List Int)) (s : Sl), Lz (kuhnB Φ iC iM t ds acc s) fun d => kuhnB (Ψ d) iC iM t ds acc s
  | [], acc, s => .of fun _ => rfl
  | x :: ds, acc, s => by
    cases hb : bindD (.nm iM) x s with
    | none => exact .inl (by simp only [kuhnB, hb])
    | some s1 =>
      rcases lz_ev G t s1 with h3 | h3
      · exact .inl (by simp only [kuhnB, hb, h3])
      · cases hf : ev Φ t s1 with
        | no => exact .inl (by simp only [kuhnB, hb, hf])
        | ex c as s2 => exact .inl (by simp only [kuhnB, hb, hf])
        | ok v s2 =>
          rw [hf] at h3
          cases v with
          | nw d => exact .inl (by simp only [kuhnB, hb, hf])
          | br i => exact .inl (by simp only [kuhnB, hb, hf])
          | dt d =>
            cases d with
            | bool q =>
              cases q with
              | false =>
                rcases lz_kuhnB (iC := iC) (iM := iM) (t := t) ds acc s2 with h4 | h4
                · exact .inl (by simp only [kuhnB, hb, hf, h4])
                · exact .inr ((h3.and h4).mono fun d ⟨e1, e2⟩ => by simp only [kuhnB, hb, hf, e1, e2])
              | true =>
                by_cases hm : ∃ m, s2[iM]? = some (.val (.int m))
                · obtain ⟨m, hm⟩ := hm
                  cases hq : flipsL m acc with
                  | none => exact .inl (by simp only [kuhnB, hb, hf, hm, hq]; split <;> rfl)
                  | some acc' =>
                    rcases lz_kuhnB (iC := iC) (iM := iM) (t := t) ds acc' (s2.set iC .no) with h4 | h4
                    · exact .inl (by simp only [kuhnB, hb, hf, hm, hq, h4]; split <;> rfl)
                    · exact .inr ((h3.and h4).mono fun d ⟨e1, e2⟩ => by simp only [kuhnB, hb, hf, hm, hq, e1, e2])
                · refine .inl ?_
                  simp only [kuhnB, hb, hf]
                  split
                  · rename_i m hh; exact absurd ⟨m, hh⟩ hm
                  · rfl
            | _ => exact .inl (by simp only [kuhnB, hb, hf])
theorem lz_kuhnR (b : Ss) (s : Sl) : Lz (kuhnR Φ b s) fun d => kuhnR (Ψ d) b s := by
  cases hk : kuhnOf b with
  | none => exact .inl (by simp only [kuhnR, hk])
  | some q =>
    obtain ⟨iL, iC, iK, iM, e, t⟩ := q
    cases hi : intsAt s iC with
    | none => exact .inl (by simp only [kuhnR, kuhnGo, hk, hi])
    | some ns =>
      rcases lz_kuhnA G (iC := iC) (iK := iK) (e := e) (rangeD 0 3) [ns] (s.set iL .no) with h1 | h1
      · exact .inl (by simp only [kuhnR, kuhnGo, hk, hi, h1]; split <;> rfl)
      · cases hA : kuhnA Φ iC iK e (rangeD 0 3) [ns] (s.set iL .no) with
        | no => exact .inl (by simp only [kuhnR, kuhnGo, hk, hi, hA]; split <;> rfl)
        | ex c as s2 => exact .inl (by simp only [kuhnR, kuhnGo, hk, hi, hA]; split <;> rfl)
        | ok acc s1 =>
          rw [hA] at h1
          rcases lz_kuhnB G (iC := iC) (iM := iM) (t := t) (rangeD 0 3) acc s1 with h2 | h2
          · exact .inl (by simp only [kuhnR, kuhnGo, hk, hi, hA, h2]; split <;> rfl)
          · exact .inr ((h1.and h2).mono fun d ⟨e1, e2⟩ => by simp only [kuhnR, kuhnGo, hk, hi, hA, e1, e2])
end
section
variable {Φ : Env} {Ψ : Nat → Env} (G : Gr Φ Ψ) {n n' : Nat} (hn : n ≤ n')
include G hn
mutual
theorem lz_run : ∀ (e : S) (s : Sl), Lz (run Φ n e s) fun d => run (Ψ d) n' e s
  | .asg t e, s => by
    rcases lz_ev G e s with h | h
    · exact .inl (by simp only [run, h])
    · exact .inr (h.mono fun d e => by simp only [run, e])
  | .par i j a b, s => by
    rcases lz_ev G a s with h | h
    · exact .inl (by simp only [run, h])
    · cases hx : ev Φ a s with
      | no => exact .inl (by simp only [run, hx])
      | ex c as s1 => exact .inr (h.mono fun d e => by simp only [run, e, hx])
      | ok x s1 =>
        rcases lz_ev G b s1 with h2 | h2
        · exact .inl (by simp only [run, hx, h2])
        · exact .inr ((h.and h2).mono fun d ⟨e1, e2⟩ => by simp only [run, e1, hx, e2])
  | .setIx i ix e, s => by
    rcases lz_ev G e s with h | h
    · exact .inl (by simp only [run, h])
    · cases hx : ev Φ e s with
      | no => exact .inl (by simp only [run, hx])
      | ex c as s1 => exact .inr (h.mono fun d e => by simp only [run, e, hx])
      | ok x s1 =>
        cases he : esc s1 x with
        | none => exact .inl (by simp only [run, hx, he])
        | some p =>
          obtain ⟨d0, s2⟩ := p
          rcases lz_ev G ix s2 with h2 | h2
          · exact .inl (by simp only [run, hx, he, h2]; split <;> rfl)
          · exact .inr ((h.and h2).mono fun d ⟨e1, e2⟩ => by simp only [run, e1, hx, he, e2])
  | .aug i op e, s => by
    rcases lz_ev G e s with h | h
    · exact .inl (by simp only [run, h]; split <;> rfl)
    · exact .inr (h.mono fun d e => by simp only [run, e])
  | .expr e, s => by
    rcases lz_ev G e s with h | h
    · exact .inl (by simp only [run, h])
    · exact .inr (h.mono fun d e => by simp only [run, e])
  | .ret e, s => by
    rcases lz_ev G e s with h | h
    · exact .inl (by simp only [run, h])
    · exact .inr (h.mono fun d e => by simp only [run, e])
  | .retN, s => .of fun _ => by simp only [run]
  | .pass, s => .of fun _ => by simp only [run]
  | .brk, s => .of fun _ => by simp only [run]
  | .cnt, s => .of fun _ => by simp only [run]
  | .ifs t a b, s => by
    rcases lz_ev G t s with h | h
    · exact .inl (by simp only [run, h])
    · cases hx : ev Φ t s with
      | no => exact .inl (by simp only [run, hx])
      | ex c as s1 => exact .inr (h.mono fun d e => by simp only [run, e, hx])
      | ok x s1 =>
        cases x with
        | nw _ => exact .inl (by simp only [run, hx])
        | br _ => exact .inl (by simp only [run, hx])
        | dt v =>
          cases v with
          | bool b0 =>
            cases b0 with
            | true =>
              rcases lz_runs a s1 with h2 | h2
              · exact .inl (by simp only [run, hx, h2])
              · exact .inr ((h.and h2).mono fun d ⟨e1, e2⟩ => by simp only [run, e1, hx, e2])
            | false =>
              rcases lz_runs b s1 with h2 | h2
              · exact .inl (by simp only [run, hx, h2])
              · exact .inr ((h.and h2).mono fun d ⟨e1, e2⟩ => by simp only [run, e1, hx, e2])
          | _ => exact .inl (by simp only [run, hx])
  | .whl t b, s => by
    simp only [run]
    exact lz_whlGo (tst' := fun d s => ev (Ψ d) t s) (body' := fun d s => runs (Ψ d) n' b s) (fun s => lz_ev G t s) (fun s => lz_runs b s) n n' s hn
  | .for_ t it b, s => by
    rcases lz_evIt G it s with h | h
    · exact .inl (by simp only [run, h])
    · cases hx : evIt Φ it s with
      | no => exact .inl (by simp only [run, hx])
      | ex c as s1 => exact .inr (h.mono fun d e => by simp only [run, e, hx])
      | ok ds s1 =>
        rcases lz_forGo (t := t) (body' := fun d s => runs (Ψ d) n' b s) (fun s => lz_runs b s) ds s1 with q | q
        · exact .inl (by simp only [run, hx, q])
        · exact .inr ((h.and q).mono fun d ⟨e1, e2⟩ => by simp only [run, e1, hx, e2])
  | .rais c es, s => by
    rcases lz_evs G es s with h | h
    · exact .inl (by simp only [run, h])
    · exact .inr (h.mono fun d e => by simp only [run, e])
  | .try_ b hs, s => by
    rcases lz_runs b s with h | h
    · exact .inl (by simp only [run, h])
    · cases hx : runs Φ n b s with
      | no => exact .inl (by simp only [run, hx])
      | ok f s1 => exact .inr (h.mono fun d e => by simp only [run, e, hx])
      | ex c as s1 =>
        rcases lz_runH hs c as s1 with h2 | h2
        · exact .inl (by simp only [run, hx, h2])
        · exact .inr ((h.and h2).mono fun d ⟨e1, e2⟩ => by simp only [run, e1, hx, e2])
  | .stuck, s => .of fun _ => by simp only [run]
  | .raisT c, s => .of fun _ => by simp only [run]
theorem lz_runs : ∀ (ss : Ss) (s : Sl), Lz (runs Φ n ss s) fun d => runs (Ψ d) n' ss s
  | .nil, s => .of fun _ => by simp only [runs]
  | .cons e es, s => by
    rcases lz_run e s with h | h
    · exact .inl (by simp only [runs, h])
    · cases hx : run Φ n e s with
      | no => exact .inl (by simp only [runs, hx])
      | ex c as s1 => exact .inr (h.mono fun d e => by simp only [runs, e, hx])
      | ok x s1 =>
        cases x with
        | nx =>
          rcases lz_runs es s1 with h2 | h2
          · exact .inl (by simp only [runs, hx, h2])
          · exact .inr ((h.and h2).mono fun d ⟨e1, e2⟩ => by simp only [runs, e1, hx, e2])
        | rt w d => exact .inr (h.mono fun d e => by simp only [runs, e, hx])
        | bk => exact .inr (h.mono fun d e => by simp only [runs, e, hx])
        | ct => exact .inr (h.mono fun d e => by simp only [runs, e, hx])
  | .kuhn b, s => by
    simp only [runs]
    exact lz_kuhnR G b s
theorem lz_runH : ∀ (hs : Hs) (c : Nat) (as : List D) (s : Sl), Lz (runH Φ n hs c as s) fun d => runH (Ψ d) n' hs c as s
  | .nil, c, as, s => .of fun _ => by simp only [runH]
  | .cons cs i b hs, c, as, s => by
    have hu : ∀ d, (cs.any fun k => (Ψ d).under k c) = cs.any fun k => Φ.under k c := fun d => by simp only [G.under d]
    cases hc : cs.any fun k => Φ.under k c with
    | false =>
      rcases lz_runH hs c as s with h | h
      · exact .inl (by simp only [runH, hc, h, Bool.false_eq_true, if_false])
      · exact .inr (h.mono fun d e => by simp only [runH, hu, hc, e, Bool.false_eq_true, if_false])
    | true =>
      cases i with
      | none =>
        rcases lz_runs b s with h | h
        · exact .inl (by simp only [runH, hc, h, if_true])
        · exact .inr (h.mono fun d e => by simp only [runH, hu, hc, e, if_true])
      | some i =>
        rcases lz_runs b (s.set i (.exn c as)) with h | h
        · exact .inl (by simp only [runH, hc, h, if_true]; split <;> rfl)
        · exact .inr (h.mono fun d e => by simp only [runH, hu, hc, e, if_true])
end
theorem lz_runFn {f : Fn} {ds : List D} {r : Ret} (h : runFn Φ n f ds = some r) : Evn fun d => runFn (Ψ d) n' f ds = some r := by
  unfold runFn at h ⊢
  rcases lz_runs G hn f.body (start f.mask ds ++ List.replicate (f.ns - ds.length) .no) with q | q
  · rw [q] at h; cases h
  · exact q.mono fun d e => by simp only at e; rw [e]; exact h
end
structure Prg where
  fs : Nat → Option Fn
  glb : Nat → D
  under : Nat → Nat → Bool
def Prg.mask (P : Prg) (k : Nat) : List Bool := match P.fs k with
  | some f => f.mask
  | none => []
def Prg.env (P : Prg) : Nat → Env
  | 0 => { fn := fun _ _ => none, mask := P.mask, glb := P.glb, under := P.under }
  | d + 1 => { fn := fun k ds => (P.fs k).bind fun f => runFn (P.env d) d f ds, mask := P.mask, glb := P.glb, under := P.under }
theorem Prg.env_m (P : Prg) (d k : Nat) : (P.env d).mask k = P.mask k := by cases d <;> rfl
theorem Prg.env_g (P : Prg) (d k : Nat) : (P.env d).glb k = P.glb k := by cases d <;> rfl
theorem Prg.env_u (P : Prg) (d a b : Nat) : (P.env d).under a b = P.under a b := by cases d <;> rfl
theorem Prg.up (P : Prg) : ∀ (d d' : Nat), d ≤ d' → ∀ k ds r, (P.env d).fn k ds = some r → (P.env d').fn k ds = some r
  | 0, _, _, _, _, _, h => by cases h
  | d + 1, 0, hd, _, _, _, _ => absurd hd (Nat.not_succ_le_zero d)
  | d + 1, d' + 1, hd, k, ds, r, h => by
    have hd' : d ≤ d' := Nat.le_of_succ_le_succ hd
    have G : Gr (P.env d) (fun _ => P.env d') := ⟨fun k ds r h => .all fun _ => P.up d d' hd' k ds r h, fun _ k => by rw [P.env_m, P.env_m], fun _ k => by rw [P.env_g, P.env_g], fun _ a b => by rw [P.env_u, P.env_u]⟩
    obtain ⟨f, hf, h⟩ := Option.bind_eq_some_iff.mp h
    obtain ⟨x, hx⟩ := lz_runFn G hd' h
    exact Option.bind_eq_some_iff.mpr ⟨f, hf, hx x (Nat.le_refl x)⟩
open Classical in
noncomputable def Prg.E (P : Prg) : Env := { fn := fun k ds => if h : ∃ r d, (P.env d).fn k ds = some r then some h.choose else none, mask := P.mask, glb := P.glb, under := P.under }
theorem Prg.E_iff (P : Prg) {k : Nat} {ds : List D} {r : Ret} : P.E.fn k ds = some r ↔ ∃ d, (P.env d).fn k ds = some r := by
  constructor
  · intro h
    unfold Prg.E at h
    simp only at h
    split at h
    · rename_i q
      cases h
      exact q.choose_spec
    · cases h
  · rintro ⟨d, h⟩
    have q : ∃ r d, (P.env d).fn k ds = some r := ⟨r, d, h⟩
    unfold Prg.E
    simp only
    rw [dif_pos q]
    obtain ⟨d', h'⟩ := q.choose_spec
    have e1 := P.up d (max d d') (by omega) _ _ _ h
    have e2 := P.up d' (max d d') (by omega) _ _ _ h'
    rw [e1] at e2
    exact e2.symm
theorem Prg.E_run (P : Prg) {k : Nat} {f : Fn} {ds : List D} {r : Ret} (hf : P.fs k = some f) (h : P.E.fn k ds = some r) : ∃ n, runFn P.E n f ds = some r := by
  obtain ⟨d, h⟩ := P.E_iff.mp h
  cases d with
  | zero => cases h
  | succ d =>
    have G : Gr (P.env d) (fun _ => P.E) := ⟨fun k ds r h => .all fun _ => P.E_iff.mpr ⟨d, h⟩, fun _ k => by rw [P.env_m]; rfl, fun _ k => by rw [P.env_g]; rfl, fun _ a b => by rw [P.env_u]; rfl⟩
    obtain ⟨f', hf', h⟩ := Option.bind_eq_some_iff.mp h
    rw [hf] at hf'
    cases hf'
    obtain ⟨x, hx⟩ := lz_runFn G (Nat.le_refl d) h
    exact ⟨d, hx x (Nat.le_refl x)⟩
theorem Prg.call (P : Prg) {k n : Nat} {f : Fn} {ds : List D} {r : Ret} (hf : P.fs k = some f) (h : runFn P.E n f ds = some r) : P.E.fn k ds = some r := by
  have G : Gr P.E P.env := ⟨fun k ds r h => by
    obtain ⟨d, h⟩ := P.E_iff.mp h
    exact ⟨d, fun d' hd => P.up d d' hd _ _ _ h⟩, fun d k => by rw [P.env_m]; rfl, fun d k => by rw [P.env_g]; rfl, fun d a b => by rw [P.env_u]; rfl⟩
  obtain ⟨d0, h0⟩ := lz_runFn G (Nat.le_refl n) h
  have h1 := h0 (max d0 n) (by omega)
  have G2 : Gr (P.env (max d0 n)) (fun _ => P.env (max d0 n)) := ⟨fun k ds r h => .all fun _ => h, fun _ _ => rfl, fun _ _ => rfl, fun _ _ _ => rfl⟩
  obtain ⟨x, hx⟩ := lz_runFn G2 (show n ≤ max d0 n by omega) h1
  exact P.E_iff.mpr ⟨max d0 n + 1, Option.bind_eq_some_iff.mpr ⟨f, hf, hx x (Nat.le_refl x)⟩⟩
end Mi

/-! MiW: words for walking: values by what they tell, bounds of numbers, steps. -/
namespace Mi
open PySem
/-! ### what data tell -/
def T (p : List Int) : D := .tuple (p.map .int)
def Li (p : List Int) : D := .list (p.map .int)
def TT (s : List (List Int)) : D := .tuple (s.map T)
def LT (s : List (List Int)) : D := .list (s.map T)
def TTT (s : List (List (List Int))) : D := .tuple (s.map TT)
def LTT (s : List (List (List Int))) : D := .list (s.map TT)
def LL (s : List (List Int)) : D := .list (s.map Li)
structure Nice {α : Type} [DecidableEq α] (f : α → D) (n : Nat) : Prop where
  eqv : ∀ a b, PyData.eqv (f a) (f b) = decide (a = b)
  lay : ∀ a, (f a).canLay0 = true
  dep : ∀ a, (f a).depth ≤ n
theorem nice_int : Nice PyData.int 0 := ⟨fun a b => by
  show (a == b) = decide (a = b)
  by_cases h : a = b <;> simp [h], fun a => rfl, fun a => Nat.le_refl 0⟩
section
variable {α : Type} [DecidableEq α] {f : α → D} {n : Nat} (N : Nice f n)
include N
theorem Nice.eqvAll : ∀ as bs : List α, PyData.eqvAll (as.map f) (bs.map f) = decide (as = bs)
  | [], [] => rfl
  | [], _ :: _ => rfl
  | _ :: _, [] => rfl
  | a :: as, b :: bs => by
    simp only [List.map_cons, PyData.eqvAll, N.eqv, Nice.eqvAll as bs]
    by_cases h1 : a = b <;> by_cases h2 : as = bs <;> simp [h1, h2]
theorem Nice.layAll : ∀ as : List α, PyData.canLayAll0 (as.map f) = true
  | [] => rfl
  | a :: as => by simp [PyData.canLayAll0, N.lay, Nice.layAll as]
theorem Nice.depAll : ∀ as : List α, PyData.depthAll (as.map f) ≤ n
  | [] => Nat.zero_le n
  | a :: as => by
    simp only [List.map_cons, PyData.depthAll]
    exact Nat.max_le.mpr ⟨N.dep a, Nice.depAll as⟩
theorem Nice.tup : Nice (fun l : List α => PyData.tuple (l.map f)) (n + 1) :=
  ⟨fun a b => N.eqvAll a b, fun a => N.layAll a, fun a => by
    have := N.depAll a
    simp only [PyData.depth]
    omega⟩
theorem Nice.lst : Nice (fun l : List α => PyData.list (l.map f)) (n + 1) :=
  ⟨fun a b => N.eqvAll a b, fun a => N.layAll a, fun a => by
    have := N.depAll a
    simp only [PyData.depth]
    omega⟩
theorem Nice.shaped (hn : n ≤ 64) (a : α) : SeqAt.shaped (f a) = true := by
  unfold SeqAt.shaped
  rw [N.lay]
  have := N.dep a
  simp only [Bool.true_and, decide_eq_true_eq]
  omega
theorem Nice.eqB (hn : n ≤ 64) (a b : α) : eqB (f a) (f b) = some (decide (a = b)) := by
  unfold Mi.eqB
  rw [N.shaped hn, N.shaped hn, N.eqv]
  rfl
end
theorem nice_T : Nice T 1 := nice_int.tup
theorem nice_Li : Nice Li 1 := nice_int.lst
theorem nice_TT : Nice TT 2 := nice_T.tup
theorem nice_LT : Nice LT 2 := nice_T.lst
theorem nice_LL : Nice LL 2 := nice_Li.lst
theorem nice_TTT : Nice TTT 3 := nice_TT.tup
theorem nice_LTT : Nice LTT 3 := nice_TT.lst
theorem eqB_T (a b : List Int) : eqB (T a) (T b) = some (decide (a = b)) := nice_T.eqB (by decide) a b
theorem eqB_Li (a b : List Int) : eqB (Li a) (Li b) = some (decide (a = b)) := nice_Li.eqB (by decide) a b
theorem eqB_TT (a b : List (List Int)) : eqB (TT a) (TT b) = some (decide (a = b)) := nice_TT.eqB (by decide) a b
theorem eqB_LT (a b : List (List Int)) : eqB (LT a) (LT b) = some (decide (a = b)) := nice_LT.eqB (by decide) a b
theorem eqB_LL (a b : List (List Int)) : eqB (LL a) (LL b) = some (decide (a = b)) := nice_LL.eqB (by decide) a b
theorem eqB_TTT (a b : List (List (List Int))) : eqB (TTT a) (TTT b) = some (decide (a = b)) := nice_TTT.eqB (by decide) a b
theorem eqB_LTT (a b : List (List (List Int))) : eqB (LTT a) (LTT b) = some (decide (a = b)) := nice_LTT.eqB (by decide) a b
theorem eqB_none : eqB .none .none = some true := rfl
/-! folding -/
theorem fT0 : PyData.tuple [] = T [] := rfl
theorem fT1 (a : Int) : PyData.tuple [.int a] = T [a] := rfl
theorem fT2 (a b : Int) : PyData.tuple [.int a, .int b] = T [a, b] := rfl
theorem fT3 (a b c : Int) : PyData.tuple [.int a, .int b, .int c] = T [a, b, c] := rfl
theorem fT4 (a b c d : Int) : PyData.tuple [.int a, .int b, .int c, .int d] = T [a, b, c, d] := rfl
theorem fL1 (a : Int) : PyData.list [.int a] = Li [a] := rfl
theorem fL2 (a b : Int) : PyData.list [.int a, .int b] = Li [a, b] := rfl
theorem fL3 (a b c : Int) : PyData.list [.int a, .int b, .int c] = Li [a, b, c] := rfl
theorem fL4 (a b c d : Int) : PyData.list [.int a, .int b, .int c, .int d] = Li [a, b, c, d] := rfl
theorem fT (p : List Int) : PyData.tuple (p.map .int) = T p := rfl
theorem fL (p : List Int) : PyData.list (p.map .int) = Li p := rfl
theorem fTT1 (a : List Int) : PyData.tuple [T a] = TT [a] := rfl
theorem fTT2 (a b : List Int) : PyData.tuple [T a, T b] = TT [a, b] := rfl
theorem fTT3 (a b c : List Int) : PyData.tuple [T a, T b, T c] = TT [a, b, c] := rfl
theorem fTT4 (a b c d : List Int) : PyData.tuple [T a, T b, T c, T d] = TT [a, b, c, d] := rfl
theorem fLT1 (a : List Int) : PyData.list [T a] = LT [a] := rfl
theorem fLT2 (a b : List Int) : PyData.list [T a, T b] = LT [a, b] := rfl
theorem fLT3 (a b c : List Int) : PyData.list [T a, T b, T c] = LT [a, b, c] := rfl
theorem fLT4 (a b c d : List Int) : PyData.list [T a, T b, T c, T d] = LT [a, b, c, d] := rfl
theorem fLL2 (a b : List Int) : PyData.list [Li a, Li b] = LL [a, b] := rfl
theorem fLL3 (a b c : List Int) : PyData.list [Li a, Li b, Li c] = LL [a, b, c] := rfl
theorem fLL4 (a b c d : List Int) : PyData.list [Li a, Li b, Li c, Li d] = LL [a, b, c, d] := rfl
/-! what is asked of them -/
section
variable (p : List Int) (s : List (List Int)) (h : List (List (List Int))) (i : Int)
theorem atI_map {α β : Type} (f : α → β) (xs : List α) (i : Int) : L2.atI (xs.map f) i = (L2.atI xs i).map f := by
  unfold L2.atI
  rw [List.length_map]
  cases L2.ixN xs.length i <;> simp
theorem ixD_T : ixD (T p) (.int i) = (L2.atI p i).map .int := atI_map _ _ _
theorem ixD_Li : ixD (Li p) (.int i) = (L2.atI p i).map .int := atI_map _ _ _
theorem ixD_TT : ixD (TT s) (.int i) = (L2.atI s i).map T := atI_map _ _ _
theorem ixD_LT : ixD (LT s) (.int i) = (L2.atI s i).map T := atI_map _ _ _
theorem ixD_LL : ixD (LL s) (.int i) = (L2.atI s i).map Li := atI_map _ _ _
theorem ixD_TTT : ixD (TTT h) (.int i) = (L2.atI h i).map TT := atI_map _ _ _
theorem ixD_LTT : ixD (LTT h) (.int i) = (L2.atI h i).map TT := atI_map _ _ _
theorem len_T : bltD .len [T p] = some (.dt (.int p.length)) := by simp [bltD, T]
theorem len_Li : bltD .len [Li p] = some (.dt (.int p.length)) := by simp [bltD, Li]
theorem len_TT : bltD .len [TT s] = some (.dt (.int s.length)) := by simp [bltD, TT]
theorem len_LT : bltD .len [LT s] = some (.dt (.int s.length)) := by simp [bltD, LT]
theorem len_LL : bltD .len [LL s] = some (.dt (.int s.length)) := by simp [bltD, LL]
theorem len_TTT : bltD .len [TTT h] = some (.dt (.int h.length)) := by simp [bltD, TTT]
theorem len_LTT : bltD .len [LTT h] = some (.dt (.int h.length)) := by simp [bltD, LTT]
theorem tup_T : bltD .tuple [T p] = some (.dt (T p)) := rfl
theorem tup_Li : bltD .tuple [Li p] = some (.dt (T p)) := rfl
theorem tup_TT : bltD .tuple [TT s] = some (.dt (TT s)) := rfl
theorem tup_LT : bltD .tuple [LT s] = some (.dt (TT s)) := rfl
theorem tup_TTT : bltD .tuple [TTT h] = some (.dt (TTT h)) := rfl
theorem tup_LTT : bltD .tuple [LTT h] = some (.dt (TTT h)) := rfl
theorem lst_T : bltD .list [T p] = some (.nw (Li p)) := rfl
theorem lst_Li : bltD .list [Li p] = some (.nw (Li p)) := rfl
theorem lst_TT : bltD .list [TT s] = some (.nw (LT s)) := rfl
theorem lst_LT : bltD .list [LT s] = some (.nw (LT s)) := rfl
theorem lst_TTT : bltD .list [TTT h] = some (.nw (LTT h)) := rfl
theorem lst_LTT : bltD .list [LTT h] = some (.nw (LTT h)) := rfl
theorem it_T : itemsOf (T p) = some (p.map .int) := rfl
theorem it_Li : itemsOf (Li p) = some (p.map .int) := rfl
theorem it_TT : itemsOf (TT s) = some (s.map T) := rfl
theorem it_LT : itemsOf (LT s) = some (s.map T) := rfl
theorem it_TTT : itemsOf (TTT h) = some (h.map TT) := rfl
theorem it_LTT : itemsOf (LTT h) = some (h.map TT) := rfl
theorem isT_T : isTD (T p) .tuple = some true := rfl
theorem isT_Li : isTD (Li p) .tuple = some false := rfl
theorem isT_TT : isTD (TT s) .tuple = some true := rfl
theorem isT_TTT : isTD (TTT h) .tuple = some true := rfl
theorem sum_Li : bltD .sum [Li p] = some (.dt (.int p.sum)) := by simp [bltD, Li, intsOf_map]
theorem cutD_map {α β : Type} (f : α → β) (xs : List α) (lo hi : Option Int) : (xs.map f).length = xs.length := List.length_map ..
end
/-! places of explicit rows -/
section
variable {α : Type} (a b c d e : α) (xs : List α)
theorem at_0 : L2.atI (a :: xs) 0 = some a := atI_zero a xs
theorem at_1 : L2.atI (a :: b :: xs) 1 = some b := by
  unfold L2.atI L2.ixN
  rw [if_pos (by decide), if_pos (by simp only [List.length_cons]; omega)]
  rfl
theorem at_2 : L2.atI (a :: b :: c :: xs) 2 = some c := by
  unfold L2.atI L2.ixN
  rw [if_pos (by decide), if_pos (by simp only [List.length_cons]; omega)]
  rfl
theorem at_3 : L2.atI (a :: b :: c :: d :: xs) 3 = some d := by
  unfold L2.atI L2.ixN
  rw [if_pos (by decide), if_pos (by simp only [List.length_cons]; omega)]
  rfl
theorem at_m1 : L2.atI xs (-1) = xs.getLast? := by
  unfold L2.atI L2.ixN
  rw [if_neg (by decide)]
  cases xs with
  | nil => rfl
  | cons x xs =>
    rw [if_pos (by simp only [List.length_cons]; omega)]
    simp only [Option.bind_some, List.getLast?_eq_getElem?, List.length_cons, Nat.add_sub_cancel]
    congr 1
    omega
theorem at_m2 : L2.atI [a, b] (-2) = some a := rfl
theorem at_m2' : L2.atI [a, b, c] (-2) = some b := rfl
theorem at_m2'' : L2.atI [a, b, c, d] (-2) = some c := rfl
theorem gl1 : [a].getLast? = some a := rfl
theorem glc : (a :: b :: xs).getLast? = (b :: xs).getLast? := by simp
end
theorem cutD_mapf {α : Type} (f : α → D) (xs : List α) (lo hi : Option Int) : cutD (xs.map f) lo hi = ((xs.drop (HT.sIx xs.length 0 lo)).take (HT.sIx xs.length xs.length hi - HT.sIx xs.length 0 lo)).map f := by
  unfold cutD
  rw [List.length_map, List.map_take, List.map_drop]
/-- a slice -/
def cutL {α : Type} (xs : List α) (lo hi : Option Int) : List α := (xs.drop (HT.sIx xs.length 0 lo)).take (HT.sIx xs.length xs.length hi - HT.sIx xs.length 0 lo)
theorem sIx_m1 (n d : Nat) : HT.sIx n d (some (-1)) = n - 1 := by
  show (if (-1 : Int) < 0 then ((-1 : Int) + (n : Int)).toNat else min (-1 : Int).toNat n) = n - 1
  rw [if_pos (by decide)]
  omega
theorem sIx_m2 (n d : Nat) : HT.sIx n d (some (-2)) = n - 2 := by
  show (if (-2 : Int) < 0 then ((-2 : Int) + (n : Int)).toNat else min (-2 : Int).toNat n) = n - 2
  rw [if_pos (by decide)]
  omega
section
variable (p : List Int) (s : List (List Int)) (h : List (List (List Int))) (lo hi : Option Int)
theorem slc_T : slcD (T p) lo hi = some (.dt (T (cutL p lo hi))) := by
  show some (Vl.dt (.tuple (cutD _ _ _))) = _
  rw [cutD_mapf]; rfl
theorem slc_Li : slcD (Li p) lo hi = some (.nw (Li (cutL p lo hi))) := by
  show some (Vl.nw (.list (cutD _ _ _))) = _
  rw [cutD_mapf]; rfl
theorem slc_TT : slcD (TT s) lo hi = some (.dt (TT (cutL s lo hi))) := by
  show some (Vl.dt (.tuple (cutD _ _ _))) = _
  rw [cutD_mapf]; rfl
theorem slc_LT : slcD (LT s) lo hi = some (.nw (LT (cutL s lo hi))) := by
  show some (Vl.nw (.list (cutD _ _ _))) = _
  rw [cutD_mapf]; rfl
theorem slc_LTT : slcD (LTT h) lo hi = some (.nw (LTT (cutL h lo hi))) := by
  show some (Vl.nw (.list (cutD _ _ _))) = _
  rw [cutD_mapf]; rfl
end
theorem cutL_init {α : Type} (xs : List α) : cutL xs none (some (-1)) = xs.dropLast := by
  unfold cutL
  rw [HT.sIx_none, sIx_m1, List.drop_zero, Nat.sub_zero, List.dropLast_eq_take]
theorem cutL_init2 {α : Type} (xs : List α) : cutL xs none (some (-2)) = xs.take (xs.length - 2) := by
  unfold cutL
  rw [HT.sIx_none, sIx_m2, List.drop_zero, Nat.sub_zero]
theorem cutL_last {α : Type} (xs : List α) : cutL xs (some (-1)) none = xs.drop (xs.length - 1) := by
  unfold cutL
  rw [HT.sIx_none, sIx_m1]
  exact List.take_of_length_le (by simp)
theorem cutL_1 {α : Type} (x : α) (xs : List α) : cutL (x :: xs) (some 1) none = xs := by
  unfold cutL
  rw [HT.sIx_none]
  have e : HT.sIx (x :: xs).length 0 (some 1) = 1 := (HT.sIx_nat _ _ 1).trans (by simp only [List.length_cons]; omega)
  rw [e]
  simp
/-! ### bounds -/
def Bd (k : Nat) (x : Int) : Prop := x.natAbs < 2 ^ k
def BdL (k : Nat) (p : List Int) : Prop := ∀ x ∈ p, Bd k x
theorem Bd.le {k l : Nat} {x : Int} (h : Bd k x) (hl : k ≤ l) : Bd l x := Nat.lt_of_lt_of_le h (Nat.pow_le_pow_right (by decide) hl)
theorem Bd.mul {k l : Nat} {x y : Int} (h : Bd k x) (h' : Bd l y) : Bd (k + l) (x * y) := by
  unfold Bd at *
  rw [Int.natAbs_mul, Nat.pow_add]
  exact Nat.mul_lt_mul'' h h'
theorem Bd.add {k l : Nat} {x y : Int} (h : Bd k x) (h' : Bd l y) : Bd (max k l + 1) (x + y) := by
  have h1 := h.le (Nat.le_max_left k l)
  have h2 := h'.le (Nat.le_max_right k l)
  unfold Bd at *
  have := Int.natAbs_add_le x y
  rw [Nat.pow_succ]
  omega
theorem Bd.neg {k : Nat} {x : Int} (h : Bd k x) : Bd k (-x) := by
  unfold Bd at *
  rwa [Int.natAbs_neg]
theorem Bd.sub {k l : Nat} {x y : Int} (h : Bd k x) (h' : Bd l y) : Bd (max k l + 1) (x - y) := Int.sub_eq_add_neg ▸ h.add h'.neg
theorem Bd.of {k : Nat} {x : Int} (h : x.natAbs < 2 ^ k) : Bd k x := h
theorem Bd.log {k : Nat} {x : Int} (h : Bd k x) : x.natAbs.log2 ≤ k := by
  by_cases h0 : x.natAbs = 0
  · rw [h0]; simp
  · exact Nat.le_of_lt ((Nat.log2_lt h0).mpr h)
class BdI (x : Int) (k : outParam Nat) : Prop where
  h : Bd k x
instance bdi_mul {x y : Int} {k l : Nat} [BdI x k] [BdI y l] : BdI (x * y) (k + l) := ⟨BdI.h.mul BdI.h⟩
instance bdi_add {x y : Int} {k l : Nat} [BdI x k] [BdI y l] : BdI (x + y) (max k l + 1) := ⟨BdI.h.add BdI.h⟩
instance bdi_sub {x y : Int} {k l : Nat} [BdI x k] [BdI y l] : BdI (x - y) (max k l + 1) := ⟨BdI.h.sub BdI.h⟩
instance bdi_neg {x : Int} {k : Nat} [BdI x k] : BdI (-x) k := ⟨BdI.h.neg⟩
instance bdi_0 : BdI 0 0 := ⟨by unfold Bd; decide⟩
instance bdi_1 : BdI 1 1 := ⟨by unfold Bd; decide⟩
instance bdi_2 : BdI 2 2 := ⟨by unfold Bd; decide⟩
instance bdi_6 : BdI 6 3 := ⟨by unfold Bd; decide⟩
theorem mulB_bd {a b : Int} {k l : Nat} (h : Bd k a) (h' : Bd l b) (hk : k + l < 1000000) : mulB a b = true := by
  have h1 := h.log
  have h2 := h'.log
  unfold mulB
  rw [decide_eq_true (show a.natAbs.log2 + b.natAbs.log2 < 1000000 by omega)]
  simp
theorem mulB_i {a b : Int} {k l : Nat} [BdI a k] [BdI b l] (hk : k + l < 1000000) : mulB a b = true := mulB_bd (BdI.h (x := a)) (BdI.h (x := b)) hk
theorem mulB_0l (a : Int) : mulB 0 a = true := mulB_r (by decide)
theorem mulB_0r (a : Int) : mulB a 0 = true := mulB_l (by decide)
theorem mulB_1l (a : Int) : mulB 1 a = true := mulB_r (by decide)
theorem mulB_1r (a : Int) : mulB a 1 = true := mulB_l (by decide)
theorem mulB_2l (a : Int) : mulB 2 a = true := mulB_r (by decide)
theorem mulB_m1l (a : Int) : mulB (-1) a = true := mulB_r (by decide)
theorem mulB_m1r (a : Int) : mulB a (-1) = true := mulB_l (by decide)
theorem divB_bd {b : Int} {k : Nat} (h : Bd k b) (h0 : b ≠ 0) (hk : k < 9000) : divB b = true := by
  have h1 := h.log
  unfold divB
  rw [decide_eq_true h0, decide_eq_true (show b.natAbs.log2 < 9000 by omega)]
  rfl
theorem sizeB_le {n : Nat} (h : n ≤ 1000) : sizeB n = true := by
  have : (1000 : Nat) ≤ sizeLine := by decide
  unfold sizeB
  exact decide_eq_true (by omega)
theorem lt_sizeLine {n : Nat} (h : n < 1000) : n < sizeLine := by
  have : (1000 : Nat) ≤ sizeLine := by decide
  omega
/-! ### steps -/
theorem evAnd_c {Φ : Env} {e f : E} {es : Es} {s : Sl} : evAnd Φ (.cons e (.cons f es)) s = match ev Φ e s with
    | .ok (.dt (.bool true)) s1 => evAnd Φ (.cons f es) s1
    | .ok (.dt (.bool false)) s1 => .ok (.dt (.bool false)) s1
    | .ok _ _ => .no
    | .ex c args s1 => .ex c args s1
    | .no => .no := by
  rw [evAnd.eq_3] <;> first
    | (intro h; cases h; done)
    | (cases ev Φ e s with
      | ok v s1 => cases v with
        | dt d => cases d <;> first | rfl | (rename_i b; cases b <;> rfl)
        | _ => rfl
      | _ => rfl)
theorem evOr_c {Φ : Env} {e f : E} {es : Es} {s : Sl} : evOr Φ (.cons e (.cons f es)) s = match ev Φ e s with
    | .ok (.dt (.bool false)) s1 => evOr Φ (.cons f es) s1
    | .ok (.dt (.bool true)) s1 => .ok (.dt (.bool true)) s1
    | .ok _ _ => .no
    | .ex c args s1 => .ex c args s1
    | .no => .no := by
  rw [evOr.eq_3] <;> first
    | (intro h; cases h; done)
    | (cases ev Φ e s with
      | ok v s1 => cases v with
        | dt d => cases d <;> first | rfl | (rename_i b; cases b <;> rfl)
        | _ => rfl
      | _ => rfl)
theorem mul_ii {a b : Int} (h : mulB a b = true) : binD .mul (.int a) (.int b) = some (.dt (.int (a * b))) := by simp [binD, h]
theorem add_ii {a b : Int} : binD .add (.int a) (.int b) = some (.dt (.int (a + b))) := rfl
theorem sub_ii {a b : Int} : binD .sub (.int a) (.int b) = some (.dt (.int (a - b))) := rfl
theorem add_TT {p q : List Int} (h : p.length + q.length ≤ 1000) : binD .add (T p) (T q) = some (.dt (T (p ++ q))) := by
  simp [binD, T, sizeB_le h]
theorem add_LL {p q : List Int} (h : p.length + q.length ≤ 1000) : binD .add (Li p) (Li q) = some (.nw (Li (p ++ q))) := by
  simp [binD, Li, sizeB_le h]
theorem add_LTLT {p q : List (List Int)} (h : p.length + q.length ≤ 1000) : binD .add (LT p) (LT q) = some (.nw (LT (p ++ q))) := by
  simp [binD, LT, sizeB_le h]
theorem add_TTTT {p q : List (List Int)} (h : p.length + q.length ≤ 1000) : binD .add (TT p) (TT q) = some (.dt (TT (p ++ q))) := by
  simp [binD, TT, sizeB_le h]
theorem add_LTT {p q : List (List (List Int))} (h : p.length + q.length ≤ 1000) : binD .add (LTT p) (LTT q) = some (.nw (LTT (p ++ q))) := by
  simp [binD, LTT, sizeB_le h]
theorem lt_ii {a b : Int} : cmpD .lt (.int a) (.int b) = some (decide (a < b)) := rfl
theorem le_ii {a b : Int} : cmpD .le (.int a) (.int b) = some (decide (a ≤ b)) := rfl
theorem gt_ii {a b : Int} : cmpD .gt (.int a) (.int b) = some (decide (b < a)) := rfl
theorem ge_ii {a b : Int} : cmpD .ge (.int a) (.int b) = some (decide (b ≤ a)) := rfl
theorem eq_dd {a b : D} : cmpD .eq a b = eqB a b := rfl
theorem ne_dd {a b : D} : cmpD .ne a b = (eqB a b).map (!·) := rfl
theorem eqB_ii (a b : Int) : eqB (.int a) (.int b) = some (decide (a = b)) := eqB_int a b
def okM (m : Int) : Bool := decide (0 < m) && decide (m < 1000000000000000000000000000000000000000000000000000000000000)
theorem okM_pos {m : Int} (h : okM m = true) : 0 < m := by
  simp only [okM, Bool.and_eq_true, decide_eq_true_eq] at h
  exact h.1
theorem okM_ne {m : Int} (h : okM m = true) : m ≠ 0 := by have := okM_pos h; omega
theorem okM_log {m : Int} (h : okM m = true) : m.natAbs.log2 < 9000 := by
  simp only [okM, Bool.and_eq_true, decide_eq_true_eq] at h
  have := log2_le (k := 200) (n := m.natAbs) (Nat.lt_of_lt_of_le (show m.natAbs < 1000000000000000000000000000000000000000000000000000000000000 by omega) (by decide))
  omega
theorem okM_of {m : Int} (h : 0 < m) (h2 : m ≤ 100000000000000000000000000000000000000000000000000) : okM m = true := by
  simp only [okM, Bool.and_eq_true, decide_eq_true_eq]
  exact ⟨h, by omega⟩
theorem gcdL_log {p : List Int} {k : Nat} {x : Int} (h : BdL k p) (hx : x ∈ p) (h0 : x ≠ 0) : gcdL 0 p ≠ 0 ∧ (gcdL 0 p).log2 ≤ k := by
  have d := (gcdL_dvd p 0).2 x hx
  have d' : gcdL 0 p ∣ x.natAbs := by
    have := Int.natAbs_dvd_natAbs.mpr d
    simpa using this
  have hp : 0 < x.natAbs := by omega
  have hle := Nat.le_of_dvd hp d'
  have hg : gcdL 0 p ≠ 0 := by
    intro e
    rw [e] at d'
    have := Nat.eq_zero_of_zero_dvd d'
    omega
  refine ⟨hg, ?_⟩
  have hb : x.natAbs < 2 ^ k := h x hx
  have : gcdL 0 p < 2 ^ k := Nat.lt_of_le_of_lt hle hb
  exact Nat.le_of_lt ((Nat.log2_lt hg).mpr this)
theorem okL_of {p : List Int} {k : Nat} {x : Int} (h : BdL k p) (hx : x ∈ p) (h0 : x ≠ 0) (hk : k < 8900) (hn : p.length ≤ 1000) : okL p := by
  obtain ⟨g, l⟩ := gcdL_log h hx h0
  exact ⟨hn, g, by show (gcdL 0 p : Int).natAbs.log2 < 8900; rw [Int.natAbs_natCast]; omega⟩
/-- a def of the decoder's row alone says yes -/
def Yes1 (r : R Fl) : Prop := ∃ R' s', r = .ok (.rt false (.bool true)) (.own true (Li R') :: s')
theorem yes1_of {Φ : Env} {n : Nat} {f : Fn} {R : List Int} (hm : f.mask = [true]) (h : Yes1 (runs Φ n f.body (.own true (Li R) :: List.replicate (f.ns - 1) .no))) : ∃ R', runFn Φ n f [Li R] = some (.ok false (.bool true) [Li R']) := by
  obtain ⟨R', s', e⟩ := h
  refine ⟨R', ?_⟩
  unfold runFn
  rw [hm]
  show (match runs Φ n f.body (.own true (Li R) :: List.replicate (f.ns - 1) .no) with
    | .ok .nx s => (outsOf [true] s).map (Ret.ok false .none)
    | .ok (.rt nw d) s => (outsOf [true] s).map (Ret.ok nw d)
    | .ok _ _ => none
    | .ex c args s => (outsOf [true] s).map (Ret.ex c args)
    | .no => none) = _
  rw [e]
  rfl
/-- the law says yes -/
def YesL (r : R Fl) : Prop := ∃ x s', r = .ok (.rt false (.bool true)) (x :: s')
theorem yesL_of {Φ : Env} {n : Nat} {f : Fn} {ns : List Int} (hm : f.mask = [false]) (h : YesL (runs Φ n f.body (.val (frzD (ns.map .int)) :: List.replicate (f.ns - 1) .no))) : runFn Φ n f [frzD (ns.map .int)] = some (.ok false (.bool true) []) := by
  obtain ⟨x, s', e⟩ := h
  unfold runFn
  rw [hm]
  show (match runs Φ n f.body (.val (frzD (ns.map .int)) :: List.replicate (f.ns - 1) .no) with
    | .ok .nx s => (outsOf [false] s).map (Ret.ok false .none)
    | .ok (.rt nw d) s => (outsOf [false] s).map (Ret.ok nw d)
    | .ok _ _ => none
    | .ex c args s => (outsOf [false] s).map (Ret.ex c args)
    | .no => none) = _
  rw [e]
  rfl
def frL (a b : Int) : List Int := [(fr a b).1, (fr a b).2]
theorem lcGo_nil {vs : List Nat} {bd : D → Sl → Option Sl} {tst : Sl → R Bool} {el : Sl → R Vl} {acc : List D} {s : Sl} : lcGo vs bd tst el [] acc s = .ok acc s := rfl
def pk2 {α : Type} (a b : α) (i : Int) : α := if i = 0 then a else b
def pk3 {α : Type} (a b c : α) (i : Int) : α := if i = 0 then a else if i = 1 then b else c
theorem at_take2 {α : Type} (a b : α) (R : List Int) : L2.atI [a, b] (takeS R 2).1 = some (pk2 a b (takeS R 2).1) := by
  have h := takeS_rng R (m := 2) (by decide)
  rcases (by omega : (takeS R 2).1 = 0 ∨ (takeS R 2).1 = 1) with e | e <;> rw [e] <;> rfl
theorem at_take3 {α : Type} (a b c : α) (R : List Int) : L2.atI [a, b, c] (takeS R 3).1 = some (pk3 a b c (takeS R 3).1) := by
  have h := takeS_rng R (m := 3) (by decide)
  rcases (by omega : (takeS R 3).1 = 0 ∨ (takeS R 3).1 = 1 ∨ (takeS R 3).1 = 2) with e | e | e <;> rw [e] <;> rfl
/-- what a call comes to -/
def Ans (f : Fn) (r : R Fl) (q : Ret) : Prop := (match r with
    | .ok .nx s => (outsOf f.mask s).map (Ret.ok false .none)
    | .ok (.rt nw d) s => (outsOf f.mask s).map (Ret.ok nw d)
    | .ok _ _ => none
    | .ex c args s => (outsOf f.mask s).map (Ret.ex c args)
    | .no => none) = some q
theorem ans_of {Φ : Env} {n : Nat} {f : Fn} {ds : List D} {q : Ret} (h : Ans f (runs Φ n f.body (Mi.start f.mask ds ++ List.replicate (f.ns - ds.length) .no)) q) : runFn Φ n f ds = some q := h
theorem ans_rt {f : Fn} {w : Bool} {d : D} {s : Sl} {os : List D} (h : outsOf f.mask s = some os) : Ans f (.ok (.rt w d) s) (.ok w d os) := by
  show (outsOf f.mask s).map (Ret.ok w d) = _
  rw [h]; rfl
theorem ans_ex {f : Fn} {c : Nat} {as : List D} {s : Sl} {os : List D} (h : outsOf f.mask s = some os) : Ans f (.ex c as s) (.ex c as os) := by
  show (outsOf f.mask s).map (Ret.ex c as) = _
  rw [h]; rfl
theorem ans_nx {f : Fn} {s : Sl} {os : List D} (h : outsOf f.mask s = some os) : Ans f (.ok .nx s) (.ok false .none os) := by
  show (outsOf f.mask s).map (Ret.ok false .none) = _
  rw [h]; rfl
theorem frL_length (a b : Int) : (frL a b).length = 2 := by unfold frL; simp only [List.length_cons, List.length_nil]
end Mi

/-! MiV: rows and lists seen through what they tell. -/
namespace Mi
open PySem
def lstO : D → Option (List D)
  | .list xs => some xs
  | _ => none
def tupO : D → Option (List D)
  | .tuple xs => some xs
  | _ => none
def mthO (m : Mth) (d : D) (ds : List D) : Option (D × D) := match lstO d with
  | some xs => (mthD m xs ds).map fun p => (p.1, .list p.2)
  | none => none
def setO (d : D) (k : Int) (v : D) : Option D := match lstO d with
  | some xs => (L2.ixN xs.length k).map fun j => .list (xs.set j v)
  | none => none
def zipO (a b : D) : Option (List D) := match tupO a with
  | some xs => (match tupO b with
    | some ys => some (zipD xs ys)
    | none => (lstO b).map fun ys => zipD xs ys)
  | none => match lstO a with
    | some xs => (match tupO b with
      | some ys => some (zipD xs ys)
      | none => (lstO b).map fun ys => zipD xs ys)
    | none => none
theorem ev_mthV {Φ : Env} {s : Sl} {m : Mth} {i : Nat} {es : Es} : ev Φ (.mth m i es) s = match s[i]? with
    | some (.own _ _) => match evs Φ es s with
      | .ok vs s1 => match escs s1 vs with
        | some (ds, s2) => match s2[i]? with
          | some (.own p d) => match mthO m d ds with
            | some q => .ok (.dt q.1) (s2.set i (.own p q.2))
            | none => .no
          | _ => .no
        | none => .no
      | .ex c args s1 => .ex c args s1
      | .no => .no
    | _ => .no := by
  have key : ∀ (s2 : Sl) (ds : List D), (match s2[i]? with
      | some (.own p (.list xs)) => match mthD m xs ds with
        | some (v, ys) => R.ok (Vl.dt v) (s2.set i (.own p (.list ys)))
        | none => .no
      | _ => .no) = match s2[i]? with
      | some (.own p d) => match mthO m d ds with
        | some q => R.ok (Vl.dt q.1) (s2.set i (.own p q.2))
        | none => .no
      | _ => .no := fun s2 ds => by
    cases h : s2[i]? with
    | none => rfl
    | some y =>
      cases y with
      | own p z =>
        cases z with
        | list xs =>
          simp only [mthO, lstO]
          cases h2 : mthD m xs ds with
          | none => simp only [Option.map_none]
          | some j => simp only [Option.map_some]
        | _ => simp only [mthO, lstO]
      | _ => rfl
  rw [ev]
  cases h1 : s[i]? with
  | none => rfl
  | some x =>
    cases x with
    | own p d =>
      dsimp only
      cases h2 : evs Φ es s with
      | ok vs s1 =>
        dsimp only
        cases h3 : escs s1 vs with
        | none => rfl
        | some q => exact key q.2 q.1
      | _ => rfl
    | _ => rfl
theorem run_setV {Φ : Env} {n i : Nat} {ix e : E} {s : Sl} : run Φ n (.setIx i ix e) s = match ev Φ e s with
    | .ok v s1 => match esc s1 v with
      | some (d, s2) => match s2[i]? with
        | some (.own _ _) => match ev Φ ix s2 with
          | .ok (.dt (.int k)) s3 => match s3[i]? with
            | some (.own p xs) => match setO xs k d with
              | some ys => .ok .nx (s3.set i (.own p ys))
              | none => .no
            | _ => .no
          | .ok _ _ => .no
          | .ex c args s1 => .ex c args s1
          | .no => .no
        | _ => .no
      | none => .no
    | .ex c args s1 => .ex c args s1
    | .no => .no := by
  have key : ∀ (s3 : Sl) (k : Int) (d : D), (match s3[i]? with
      | some (.own p (.list xs)) => match L2.ixN xs.length k with
        | some j => R.ok Fl.nx (s3.set i (.own p (.list (xs.set j d))))
        | none => .no
      | _ => .no) = match s3[i]? with
      | some (.own p xs) => match setO xs k d with
        | some ys => R.ok Fl.nx (s3.set i (.own p ys))
        | none => .no
      | _ => .no := fun s3 k d => by
    cases h : s3[i]? with
    | none => rfl
    | some y =>
      cases y with
      | own p z =>
        cases z with
        | list xs =>
          simp only [setO, lstO]
          cases h2 : L2.ixN xs.length k with
          | none => simp only [Option.map_none]
          | some j => simp only [Option.map_some]
        | _ => simp only [setO, lstO]
      | _ => rfl
  rw [Mi.run]
  cases h1 : ev Φ e s with
  | ok v s1 =>
    dsimp only
    cases h2 : esc s1 v with
    | none => rfl
    | some q =>
      obtain ⟨d, s2⟩ := q
      dsimp only
      cases h3 : s2[i]? with
      | none => rfl
      | some x =>
        cases x with
        | own p d' =>
          dsimp only
          cases h4 : ev Φ ix s2 with
          | ok w s3 =>
            cases w with
            | dt z =>
              cases z with
              | int k => exact key s3 k d
              | _ => rfl
            | _ => rfl
          | _ => rfl
        | _ => rfl
  | _ => rfl
theorem ev_revV {Φ : Env} {a : E} {lo hi : Option Int} {s : Sl} : ev Φ (.rev a lo hi) s = match ev Φ a s with
    | .ok x s1 => match x.get s1 with
      | some d => match lstO d with
        | some ds => .ok (.nw (.list (revD ds lo hi))) s1
        | none => .no
      | none => .no
    | .ex c args s1 => .ex c args s1
    | .no => .no := by
  rw [ev]
  cases ev Φ a s with
  | ok x s1 =>
    dsimp only
    cases x.get s1 with
    | none => rfl
    | some d => cases d <;> rfl
  | _ => rfl
theorem evIt_enmV {Φ : Env} {e : E} {s : Sl} : evIt Φ (.enm e) s = match ev Φ e s with
    | .ok v s1 => match esc s1 v with
      | some (d, s2) => ofO ((lstO d).map (enumD 0)) s2
      | none => .no
    | .ex c args s1 => .ex c args s1
    | .no => .no := by
  have key : ∀ (o : Option (D × Sl)), (match o with
      | some (.list xs, s2) => R.ok (enumD 0 xs) s2
      | _ => .no) = match o with
      | some (d, s2) => ofO ((lstO d).map (enumD 0)) s2
      | none => .no := fun o => by
    cases o with
    | none => rfl
    | some q => obtain ⟨d, s2⟩ := q; cases d <;> rfl
  rw [evIt]
  cases h1 : ev Φ e s with
  | ok v s1 => exact key (esc s1 v)
  | _ => rfl
theorem evIt_zipV {Φ : Env} {a b : E} {s : Sl} : evIt Φ (.zip a b) s = match ev Φ a s with
    | .ok v s1 => match ev Φ b s1 with
      | .ok w s2 => match escs s2 [v, w] with
        | some (xs, s3) => match xs with
          | [x, y] => ofO (zipO x y) s3
          | _ => .no
        | none => .no
      | .ex c args s1 => .ex c args s1
      | .no => .no
    | .ex c args s1 => .ex c args s1
    | .no => .no := by
  have key : ∀ (o : Option (List D × Sl)), (match o with
      | some ([.list xs, .list ys], s3) => R.ok (zipD xs ys) s3
      | some ([.tuple xs, .tuple ys], s3) => R.ok (zipD xs ys) s3
      | some ([.list xs, .tuple ys], s3) => R.ok (zipD xs ys) s3
      | some ([.tuple xs, .list ys], s3) => R.ok (zipD xs ys) s3
      | _ => .no) = match o with
      | some (xs, s3) => match xs with
        | [x, y] => ofO (zipO x y) s3
        | _ => .no
      | none => .no := fun o => by
    cases o with
    | none => rfl
    | some q =>
      obtain ⟨ds, s3⟩ := q
      match ds with
      | [] => rfl
      | [x] => cases x <;> rfl
      | [x, y] => cases x <;> cases y <;> rfl
      | x :: y :: z :: ds => cases x <;> cases y <;> rfl
  rw [evIt]
  cases h1 : ev Φ a s with
  | ok v s1 =>
    dsimp only
    cases h2 : ev Φ b s1 with
    | ok w s2 => exact key (escs s2 [v, w])
    | _ => rfl
  | _ => rfl
section
variable (p : List Int) (s : List (List Int)) (h : List (List (List Int)))
theorem tupO_T : tupO (T p) = some (p.map .int) := rfl
theorem tupO_TT : tupO (TT s) = some (s.map T) := rfl
theorem tupO_TTT : tupO (TTT h) = some (h.map TT) := rfl
theorem tupO_Li : tupO (Li p) = none := rfl
theorem tupO_LT : tupO (LT s) = none := rfl
theorem tupO_LL : tupO (LL s) = none := rfl
theorem tupO_LTT : tupO (LTT h) = none := rfl
theorem tupO_t (xs : List D) : tupO (.tuple xs) = some xs := rfl
theorem tupO_l (xs : List D) : tupO (.list xs) = none := rfl
theorem lstO_T : lstO (T p) = none := rfl
theorem lstO_TT : lstO (TT s) = none := rfl
theorem lstO_TTT : lstO (TTT h) = none := rfl
theorem lstO_Li : lstO (Li p) = some (p.map .int) := rfl
theorem lstO_LT : lstO (LT s) = some (s.map T) := rfl
theorem lstO_LL : lstO (LL s) = some (s.map Li) := rfl
theorem lstO_LTT : lstO (LTT h) = some (h.map TT) := rfl
theorem lstO_l (xs : List D) : lstO (.list xs) = some xs := rfl
theorem lstO_t (xs : List D) : lstO (.tuple xs) = none := rfl
end
/-- the same of rows -/
def revL {α : Type} (s : List α) (lo hi : Option Int) : List α := (sliceRange (PySem.sliceBounds lo hi (some (-1)) s.length).1 (PySem.sliceBounds lo hi (some (-1)) s.length).2.1 (PySem.sliceBounds lo hi (some (-1)) s.length).2.2).filterMap (s[·]?)
theorem revD_map {α : Type} (f : α → D) (s : List α) (lo hi : Option Int) : revD (s.map f) lo hi = (revL s lo hi).map f := by
  unfold revD revL
  rw [List.length_map, List.map_filterMap]
  congr 1
  funext i
  simp
theorem revD_LT (s : List (List Int)) (lo hi : Option Int) : PyData.list (revD (s.map T) lo hi) = LT (revL s lo hi) := by rw [revD_map]; rfl
theorem zipD_cc (a b : D) (as bs : List D) : zipD (a :: as) (b :: bs) = .tuple [a, b] :: zipD as bs := rfl
theorem zipD_nl (bs : List D) : zipD [] bs = [] := rfl
theorem zipD_nr (as : List D) : zipD as [] = [] := by cases as <;> rfl
theorem app_Li {p : List Int} {i : Int} (h : p.length < 1000) : mthO .append (Li p) [.int i] = some (.none, Li (p ++ [i])) := by
  simp [mthO, lstO, Li, mthD, lt_sizeLine h]
theorem app_LT {s : List (List Int)} {p : List Int} (h : s.length < 1000) : mthO .append (LT s) [T p] = some (.none, LT (s ++ [p])) := by
  simp [mthO, lstO, LT, mthD, lt_sizeLine h]
theorem app_LTT {s : List (List (List Int))} {p : List (List Int)} (h : s.length < 1000) : mthO .append (LTT s) [TT p] = some (.none, LTT (s ++ [p])) := by
  simp [mthO, lstO, LTT, mthD, lt_sizeLine h]
theorem app_LL {s : List (List Int)} {p : List Int} (h : s.length < 1000) : mthO .append (LL s) [Li p] = some (.none, LL (s ++ [p])) := by
  simp [mthO, lstO, LL, mthD, lt_sizeLine h]
theorem app_0 {d : D} : mthO .append (.list []) [d] = some (.none, .list [d]) := by
  simp [mthO, lstO, mthD, lt_sizeLine (show 0 < 1000 by decide)]
theorem fLTm (s : List (List Int)) : PyData.list (s.map T) = LT s := rfl
theorem fTTm (s : List (List Int)) : PyData.tuple (s.map T) = TT s := rfl
theorem fLTTm (s : List (List (List Int))) : PyData.list (s.map TT) = LTT s := rfl
theorem fTTTm (s : List (List (List Int))) : PyData.tuple (s.map TT) = TTT s := rfl
theorem fLLm (s : List (List Int)) : PyData.list (s.map Li) = LL s := rfl
theorem fLTT1 (a : List (List Int)) : PyData.list [TT a] = LTT [a] := rfl
theorem fLTT2 (a b : List (List Int)) : PyData.list [TT a, TT b] = LTT [a, b] := rfl
theorem fLTT3 (a b c : List (List Int)) : PyData.list [TT a, TT b, TT c] = LTT [a, b, c] := rfl
theorem fTTT1 (a : List (List Int)) : PyData.tuple [TT a] = TTT [a] := rfl
theorem fTTT2 (a b : List (List Int)) : PyData.tuple [TT a, TT b] = TTT [a, b] := rfl
theorem fTTT3 (a b c : List (List Int)) : PyData.tuple [TT a, TT b, TT c] = TTT [a, b, c] := rfl
theorem fLL1 (a : List Int) : PyData.list [Li a] = LL [a] := rfl
theorem all_l (xs : List D) : bltD .all [.list xs] = (blsOf xs).map fun bs => .dt (.bool (bs.all id)) := rfl
theorem any_l (xs : List D) : bltD .any [.list xs] = (blsOf xs).map fun bs => .dt (.bool (bs.any id)) := rfl
theorem int_i (i : Int) : bltD .int [.int i] = some (.dt (.int i)) := rfl
theorem int_b (b : Bool) : bltD .int [.bool b] = some (.dt (.int (if b then 1 else 0))) := rfl
theorem abs_i (i : Int) : bltD .abs [.int i] = some (.dt (.int i.natAbs)) := by simp [bltD, abs_nat]
theorem range_2 : rangeD 0 2 = [.int 0, .int 1] := rfl
theorem range_3 : rangeD 0 3 = [.int 0, .int 1, .int 2] := rfl
theorem range_4 : rangeD 0 4 = [.int 0, .int 1, .int 2, .int 3] := rfl
theorem rngB_2 : rngB 2 = true := by decide
theorem rngB_3 : rngB 3 = true := by decide
theorem rngB_4 : rngB 4 = true := by decide
theorem set_Li {p : List Int} {k i : Int} : setO (Li p) k (.int i) = (L2.ixN p.length k).map fun j => Li (p.set j i) := by
  simp only [setO, lstO, Li, List.length_map]
  congr 1
  funext j
  rw [List.map_set]
theorem set_LT {s : List (List Int)} {k : Int} {p : List Int} : setO (LT s) k (T p) = (L2.ixN s.length k).map fun j => LT (s.set j p) := by
  simp only [setO, lstO, LT, List.length_map]
  congr 1
  funext j
  rw [List.map_set]
theorem isE_at {Φ : Env} {s : Sl} {i : Nat} {cs : List Nat} {c : Nat} {as : List D} (h : s[i]? = some (.exn c as)) : ev Φ (.isE i cs) s = .ok (.dt (.bool (cs.any fun k => Φ.under k c))) s := by
  rw [ev, h]
theorem ixN_lit0 (n : Nat) : L2.ixN (n + 1) 0 = some 0 := ixN_zero n
theorem mulB_pk {a i : Int} : mulB a (pk2 1 (-1) i) = true := mulB_l (by unfold pk2; split <;> decide)
theorem pk_or (i : Int) : pk2 1 (-1) i = 1 ∨ pk2 1 (-1) i = (-1 : Int) := by unfold pk2; split <;> simp
def seqO (d : D) : Option (List D) := match tupO d with
  | some xs => some xs
  | none => lstO d
theorem bindD_tpV {ts : Tgs} {d : D} {s : Sl} : bindD (.tp ts) d s = match seqO d with
    | some ds => bindDs ts ds s
    | none => none := by
  cases d <;> first | rfl | (rw [bindD]; rfl) | (simp only [bindD, seqO, tupO, lstO])
def MV (w : Int) (p : List Int) : D := .tuple [.int w, T p]
theorem fMV (w : Int) (p : List Int) : PyData.tuple [.int w, T p] = MV w p := rfl
theorem ixMV0 (w : Int) (p : List Int) : ixD (MV w p) (.int 0) = some (.int w) := rfl
theorem ixMV1 (w : Int) (p : List Int) : ixD (MV w p) (.int 1) = some (T p) := rfl
theorem lenMV (w : Int) (p : List Int) : bltD .len [MV w p] = some (.dt (.int 2)) := rfl
theorem isTMV (w : Int) (p : List Int) : isTD (MV w p) .tuple = some true := rfl
theorem tupOMV (w : Int) (p : List Int) : tupO (MV w p) = some [.int w, T p] := rfl
theorem nice_MV : Nice (fun x : Int × List Int => MV x.1 x.2) 2 := ⟨fun a b => by
  show PyData.eqvAll [.int a.1, T a.2] [.int b.1, T b.2] = _
  simp only [PyData.eqvAll, nice_int.eqv, nice_T.eqv]
  obtain ⟨a1, a2⟩ := a
  obtain ⟨b1, b2⟩ := b
  by_cases h1 : a1 = b1 <;> by_cases h2 : a2 = b2 <;> simp [h1, h2], fun a => by
  show PyData.canLayAll0 [.int a.1, T a.2] = true
  simp [PyData.canLayAll0, nice_T.lay, PyData.canLay0], fun a => by
  have := nice_T.dep a.2
  show PyData.depthAll [.int a.1, T a.2] + 1 ≤ 2
  simp only [PyData.depthAll, PyData.depth]
  omega⟩
theorem eqB_MV (w v : Int) (p q : List Int) : eqB (MV w p) (MV v q) = some (decide (w = v ∧ p = q)) := by
  have := nice_MV.eqB (by decide) (w, p) (v, q)
  simpa [Prod.mk.injEq] using this
theorem cs_s (x : Slot) (xs : Sl) (i : Nat) : canSet (x :: xs) (i + 1) = canSet xs i := by simp [canSet]
theorem cs_v (d : D) (xs : Sl) : canSet (.val d :: xs) 0 = true := by simp [canSet]
theorem cs_n (xs : Sl) : canSet (.no :: xs) 0 = true := by simp [canSet]
theorem cs_o (d : D) (xs : Sl) : canSet (.own false d :: xs) 0 = true := by simp [canSet]
theorem cs_x (c : Nat) (as : List D) (xs : Sl) : canSet (.exn c as :: xs) 0 = true := by simp [canSet]
theorem pow10_6 : binD .pow (.int 10) (.int 6) = some (.dt (.int 1000000)) := by rfl
theorem pow10_9 : binD .pow (.int 10) (.int 9) = some (.dt (.int 1000000000)) := by rfl
theorem pow10_10 : binD .pow (.int 10) (.int 10) = some (.dt (.int 10000000000)) := by rfl
theorem pow10_12 : binD .pow (.int 10) (.int 12) = some (.dt (.int 1000000000000)) := by rfl
theorem pow10_18 : binD .pow (.int 10) (.int 18) = some (.dt (.int 1000000000000000000)) := by rfl
theorem pow10_20 : binD .pow (.int 10) (.int 20) = some (.dt (.int 100000000000000000000)) := by rfl
theorem pow10_30 : binD .pow (.int 10) (.int 30) = some (.dt (.int 1000000000000000000000000000000)) := by rfl
theorem pow10_31 : binD .pow (.int 10) (.int 31) = some (.dt (.int 10000000000000000000000000000000)) := by rfl
theorem pow10_40 : binD .pow (.int 10) (.int 40) = some (.dt (.int 10000000000000000000000000000000000000000)) := by rfl
theorem pow10_50 : binD .pow (.int 10) (.int 50) = some (.dt (.int 100000000000000000000000000000000000000000000000000)) := by rfl
theorem pow10_59 : binD .pow (.int 10) (.int 59) = some (.dt (.int 100000000000000000000000000000000000000000000000000000000000)) := by rfl
theorem pow10_60 : binD .pow (.int 10) (.int 60) = some (.dt (.int 1000000000000000000000000000000000000000000000000000000000000)) := by rfl
theorem pow10_61 : binD .pow (.int 10) (.int 61) = some (.dt (.int 10000000000000000000000000000000000000000000000000000000000000)) := by rfl
def pk4 {α : Type} (a b c d : α) (i : Int) : α := if i = 0 then a else if i = 1 then b else if i = 2 then c else d
theorem at_take4 {α : Type} (a b c d : α) (R : List Int) : L2.atI [a, b, c, d] (takeS R 4).1 = some (pk4 a b c d (takeS R 4).1) := by
  have h := takeS_rng R (m := 4) (by decide)
  rcases (by omega : (takeS R 4).1 = 0 ∨ (takeS R 4).1 = 1 ∨ (takeS R 4).1 = 2 ∨ (takeS R 4).1 = 3) with e | e | e | e <;> rw [e] <;> rfl
theorem fdiv_2 (a : Int) : binD .fdiv (.int a) (.int 2) = some (.dt (.int (a.fdiv 2))) := by
  show (if divB 2 then some (Vl.dt (.int (a.fdiv 2))) else none) = _
  rw [if_pos (by decide)]
theorem half4 (R : List Int) : 0 ≤ (takeS R 4).1.fdiv 2 ∧ (takeS R 4).1.fdiv 2 ≤ 1 := by
  have h := takeS_rng R (m := 4) (by decide)
  rcases (by omega : (takeS R 4).1 = 0 ∨ (takeS R 4).1 = 1 ∨ (takeS R 4).1 = 2 ∨ (takeS R 4).1 = 3) with e | e | e | e <;> rw [e] <;> decide
theorem is_dd (a b : D) : cmpD .is a b = isD a b := rfl
theorem isnot_dd (a b : D) : cmpD .isnot a b = (isD a b).map (!·) := rfl
theorem isD_nn : isD .none .none = some true := rfl
theorem isD_T (p : List Int) : isD (T p) .none = some false := rfl
theorem isD_TT (p : List (List Int)) : isD (TT p) .none = some false := rfl
theorem isD_LT (p : List (List Int)) : isD (LT p) .none = some false := rfl
theorem isD_TTT (p : List (List (List Int))) : isD (TTT p) .none = some false := rfl
theorem isD_MV (w : Int) (p : List Int) : isD (MV w p) .none = some false := rfl
theorem isD_int (i : Int) : isD (.int i) .none = some false := rfl
theorem ixD_t (xs : List D) (i : Int) : ixD (.tuple xs) (.int i) = L2.atI xs i := rfl
theorem ixD_l (xs : List D) (i : Int) : ixD (.list xs) (.int i) = L2.atI xs i := rfl
theorem app_raw {xs : List D} {d : D} (h : xs.length < 1000) : mthO .append (.list xs) [d] = some (.none, .list (xs ++ [d])) := by
  simp [mthO, lstO, mthD, lt_sizeLine h]
theorem mul_l2 (a : Int) : binD .mul (Li [a]) (.int 2) = some (.nw (Li [a, a])) := by simp [binD, Li, List.replicate, sizeB_le]
theorem mul_l3 (a : Int) : binD .mul (Li [a]) (.int 3) = some (.nw (Li [a, a, a])) := by simp [binD, Li, List.replicate, sizeB_le]
theorem tisOf_T : ∀ s : List (List Int), (∀ p ∈ s, p ≠ []) → tisOf (s.map T) = some s
  | [], _ => rfl
  | p :: s, h => by
    have h1 := tisOf_T s fun q hq => h q (List.mem_cons_of_mem _ hq)
    have h2 := h p List.mem_cons_self
    cases p with
    | nil => exact absurd rfl h2
    | cons n ns =>
      show (match intsOf ((n :: ns).map .int) with
        | some (n :: ns) => match tisOf (s.map T) with
          | some ps => some ((n :: ns) :: ps)
          | none => none
        | _ => none) = _
      rw [intsOf_map, h1]
theorem sorted_LT {s : List (List Int)} (h : ∀ p ∈ s, p ≠ []) : bltD .sorted [LT s] = some (.nw (LT (sortL s))) := by
  show (tisOf (s.map T)).map _ = _
  rw [tisOf_T s h]; rfl
theorem sorted_TT {s : List (List Int)} (h : ∀ p ∈ s, p ≠ []) : bltD .sorted [TT s] = some (.nw (LT (sortL s))) := by
  show (tisOf (s.map T)).map _ = _
  rw [tisOf_T s h]; rfl
theorem ixN_1_0 : L2.ixN 1 0 = some 0 := rfl
theorem ixN_1_m1 : L2.ixN 1 (-1) = some 0 := rfl
theorem ixN_2_0 : L2.ixN 2 0 = some 0 := rfl
theorem ixN_2_1 : L2.ixN 2 1 = some 1 := rfl
theorem ixN_2_m1 : L2.ixN 2 (-1) = some 1 := rfl
theorem ixN_2_m2 : L2.ixN 2 (-2) = some 0 := rfl
theorem ixN_3_0 : L2.ixN 3 0 = some 0 := rfl
theorem ixN_3_1 : L2.ixN 3 1 = some 1 := rfl
theorem ixN_3_2 : L2.ixN 3 2 = some 2 := rfl
theorem ixN_3_m1 : L2.ixN 3 (-1) = some 2 := rfl
theorem ixN_3_m2 : L2.ixN 3 (-2) = some 1 := rfl
theorem ixN_4_0 : L2.ixN 4 0 = some 0 := rfl
theorem ixN_4_1 : L2.ixN 4 1 = some 1 := rfl
theorem ixN_4_2 : L2.ixN 4 2 = some 2 := rfl
theorem ixN_4_3 : L2.ixN 4 3 = some 3 := rfl
theorem ixN_4_m1 : L2.ixN 4 (-1) = some 3 := rfl
theorem ixN_4_m2 : L2.ixN 4 (-2) = some 2 := rfl
theorem ixN_5_0 : L2.ixN 5 0 = some 0 := rfl
theorem ixN_5_1 : L2.ixN 5 1 = some 1 := rfl
theorem ixN_5_2 : L2.ixN 5 2 = some 2 := rfl
theorem ixN_5_3 : L2.ixN 5 3 = some 3 := rfl
theorem ixN_5_4 : L2.ixN 5 4 = some 4 := rfl
theorem ixN_5_m1 : L2.ixN 5 (-1) = some 4 := rfl
theorem ixN_5_m2 : L2.ixN 5 (-2) = some 3 := rfl
theorem tup_raw (xs : List D) : bltD .tuple [.list xs] = some (.dt (.tuple xs)) := rfl
theorem lst_raw (xs : List D) : bltD .list [.list xs] = some (.nw (.list xs)) := rfl
theorem lst_rawT (xs : List D) : bltD .list [.tuple xs] = some (.nw (.list xs)) := rfl
theorem ixN_of {n : Nat} {i : Int} (h0 : 0 ≤ i) (h1 : i < n) : L2.ixN n i = some i.toNat := by
  unfold L2.ixN
  rw [if_pos h0, if_pos h1]
theorem perm_erase {α : Type} : ∀ (s : List α) (i : Nat) (p : α), s[i]? = some p → (p :: s.eraseIdx i).Perm s
  | [], i, p, h => by simp at h
  | x :: s, 0, p, h => by
    simp at h
    subst h
    exact List.Perm.refl _
  | x :: s, i + 1, p, h => by
    have := perm_erase s i p (by simpa using h)
    rw [List.eraseIdx_cons_succ]
    exact (List.Perm.swap x p _).trans (this.cons x)
theorem erase_map {α β : Type} (f : α → β) : ∀ (s : List α) (i : Nat), (s.map f).eraseIdx i = (s.eraseIdx i).map f
  | [], _ => rfl
  | _ :: _, 0 => rfl
  | x :: s, i + 1 => by simp [List.eraseIdx_cons_succ, erase_map f s i]
theorem pop_LT {s : List (List Int)} {i : Int} (h0 : 0 ≤ i) (h1 : i < s.length) (hl : s.length ≤ 1000) : ∃ p, (p :: s.eraseIdx i.toNat).Perm s ∧ mthO .popAt (LT s) [.int i] = some (T p, LT (s.eraseIdx i.toNat)) := by
  have hk : i.toNat < s.length := by omega
  refine ⟨s[i.toNat], perm_erase _ _ _ (List.getElem?_eq_getElem hk), ?_⟩
  have b : (decide (-(2 ^ 62) ≤ i) && decide (i < 2 ^ 62)) = true := by
    simp only [Bool.and_eq_true, decide_eq_true_eq]
    constructor <;> omega
  have e1 : L2.ixN (s.map T).length i = some i.toNat := by rw [List.length_map]; exact ixN_of h0 h1
  have e2 : (s.map T)[i.toNat]? = some (T s[i.toNat]) := by simp [hk]
  show (mthD .popAt (s.map T) [.int i]).map (fun p => (p.1, PyData.list p.2)) = _
  simp only [mthD, b, if_true, e1, e2, Option.map_some]
  congr 2
  show PyData.list ((s.map T).eraseIdx _) = PyData.list ((s.eraseIdx _).map T)
  rw [erase_map]
theorem it_LL (s : List (List Int)) : itemsOf (LL s) = some (s.map Li) := rfl
theorem fLTT4 (a b c d : List (List Int)) : PyData.list [TT a, TT b, TT c, TT d] = LTT [a, b, c, d] := rfl
theorem fTTT4 (a b c d : List (List Int)) : PyData.tuple [TT a, TT b, TT c, TT d] = TTT [a, b, c, d] := rfl
theorem fTT6 (a b c d e f : List Int) : PyData.tuple [T a, T b, T c, T d, T e, T f] = TT [a, b, c, d, e, f] := rfl
theorem fLL6 (a b c d e f : List Int) : PyData.list [Li a, Li b, Li c, Li d, Li e, Li f] = LL [a, b, c, d, e, f] := rfl
theorem bl_T (ps : List (List Int)) : isTD (LT ps) .tuple = some false := rfl
/-! lists of lists of lists -/
def LLL (h : List (List (List Int))) : D := .list (h.map LL)
section
variable (h : List (List (List Int))) (i : Int)
theorem fLLLm : PyData.list (h.map LL) = LLL h := rfl
theorem fLLL1 (a : List (List Int)) : PyData.list [LL a] = LLL [a] := rfl
theorem ixD_LLL : ixD (LLL h) (.int i) = (L2.atI h i).map LL := atI_map _ _ _
theorem len_LLL : bltD .len [LLL h] = some (.dt (.int h.length)) := by simp [bltD, LLL]
theorem it_LLL : itemsOf (LLL h) = some (h.map LL) := rfl
theorem lstO_LLL : lstO (LLL h) = some (h.map LL) := rfl
theorem tupO_LLL : tupO (LLL h) = none := rfl
theorem slc_LL (s : List (List Int)) (lo hi : Option Int) : slcD (LL s) lo hi = some (.nw (LL (cutL s lo hi))) := by
  show some (Vl.nw (.list (cutD _ _ _))) = _
  rw [cutD_mapf]; rfl
end
theorem app_LLL {s : List (List (List Int))} {p : List (List Int)} (h : s.length < 1000) : mthO .append (LLL s) [LL p] = some (.none, LLL (s ++ [p])) := by
  simp [mthO, lstO, LLL, mthD, lt_sizeLine h]
theorem range_m1_2 : rangeD (-1) 2 = [.int (-1), .int 0, .int 1] := rfl
theorem range_m1_3 : rangeD (-1) 3 = [.int (-1), .int 0, .int 1, .int 2] := rfl
theorem rngB_m1 : rngB (-1) = true := by decide
theorem rng_ints (n : Nat) : rangeD 0 n = ((List.range n).map fun k : Nat => (k : Int)).map PyData.int := by
  simp [rangeD]
theorem rngB_of {i : Int} (h : 0 ≤ i) (h1 : i < 1000) : rngB i = true := by
  simp only [rngB, Bool.and_eq_true, decide_eq_true_eq]
  omega
theorem fdiv_ii {a b : Int} (h : divB b = true) : binD .fdiv (.int a) (.int b) = some (.dt (.int (a.fdiv b))) := by
  show (if divB b then some (Vl.dt (.int (a.fdiv b))) else none) = _
  rw [if_pos h]
theorem mod_ii {a b : Int} (h : b ≠ 0) : binD .mod (.int a) (.int b) = some (.dt (.int (a.fmod b))) := by
  show (if decide (b ≠ 0) then some (Vl.dt (.int (a.fmod b))) else none) = _
  rw [if_pos (decide_eq_true h)]
theorem cutL_f0 {α : Type} (xs : List α) : cutL xs (some 0) none = xs.drop 0 := by
  unfold cutL
  rw [HT.sIx_none, show HT.sIx xs.length 0 (some 0) = min 0 xs.length from HT.sIx_nat _ _ 0]
  by_cases h : 0 ≤ xs.length
  · rw [Nat.min_eq_left h]; exact List.take_of_length_le (by simp)
  · rw [Nat.min_eq_right (by omega), List.drop_of_length_le (Nat.le_refl _), List.drop_of_length_le (by omega)]; simp
theorem cutL_t0 {α : Type} (xs : List α) : cutL xs none (some 0) = xs.take 0 := by
  unfold cutL
  rw [HT.sIx_none, show HT.sIx xs.length xs.length (some 0) = min 0 xs.length from HT.sIx_nat _ _ 0, List.drop_zero, Nat.sub_zero]
  by_cases h : 0 ≤ xs.length
  · rw [Nat.min_eq_left h]
  · rw [Nat.min_eq_right (by omega), List.take_of_length_le (Nat.le_refl _), List.take_of_length_le (by omega)]
theorem cutL_f1 {α : Type} (xs : List α) : cutL xs (some 1) none = xs.drop 1 := by
  unfold cutL
  rw [HT.sIx_none, show HT.sIx xs.length 0 (some 1) = min 1 xs.length from HT.sIx_nat _ _ 1]
  by_cases h : 1 ≤ xs.length
  · rw [Nat.min_eq_left h]; exact List.take_of_length_le (by simp)
  · rw [Nat.min_eq_right (by omega), List.drop_of_length_le (Nat.le_refl _), List.drop_of_length_le (by omega)]; simp
theorem cutL_t1 {α : Type} (xs : List α) : cutL xs none (some 1) = xs.take 1 := by
  unfold cutL
  rw [HT.sIx_none, show HT.sIx xs.length xs.length (some 1) = min 1 xs.length from HT.sIx_nat _ _ 1, List.drop_zero, Nat.sub_zero]
  by_cases h : 1 ≤ xs.length
  · rw [Nat.min_eq_left h]
  · rw [Nat.min_eq_right (by omega), List.take_of_length_le (Nat.le_refl _), List.take_of_length_le (by omega)]
theorem cutL_f2 {α : Type} (xs : List α) : cutL xs (some 2) none = xs.drop 2 := by
  unfold cutL
  rw [HT.sIx_none, show HT.sIx xs.length 0 (some 2) = min 2 xs.length from HT.sIx_nat _ _ 2]
  by_cases h : 2 ≤ xs.length
  · rw [Nat.min_eq_left h]; exact List.take_of_length_le (by simp)
  · rw [Nat.min_eq_right (by omega), List.drop_of_length_le (Nat.le_refl _), List.drop_of_length_le (by omega)]; simp
theorem cutL_t2 {α : Type} (xs : List α) : cutL xs none (some 2) = xs.take 2 := by
  unfold cutL
  rw [HT.sIx_none, show HT.sIx xs.length xs.length (some 2) = min 2 xs.length from HT.sIx_nat _ _ 2, List.drop_zero, Nat.sub_zero]
  by_cases h : 2 ≤ xs.length
  · rw [Nat.min_eq_left h]
  · rw [Nat.min_eq_right (by omega), List.take_of_length_le (Nat.le_refl _), List.take_of_length_le (by omega)]
theorem cutL_f3 {α : Type} (xs : List α) : cutL xs (some 3) none = xs.drop 3 := by
  unfold cutL
  rw [HT.sIx_none, show HT.sIx xs.length 0 (some 3) = min 3 xs.length from HT.sIx_nat _ _ 3]
  by_cases h : 3 ≤ xs.length
  · rw [Nat.min_eq_left h]; exact List.take_of_length_le (by simp)
  · rw [Nat.min_eq_right (by omega), List.drop_of_length_le (Nat.le_refl _), List.drop_of_length_le (by omega)]; simp
theorem cutL_t3 {α : Type} (xs : List α) : cutL xs none (some 3) = xs.take 3 := by
  unfold cutL
  rw [HT.sIx_none, show HT.sIx xs.length xs.length (some 3) = min 3 xs.length from HT.sIx_nat _ _ 3, List.drop_zero, Nat.sub_zero]
  by_cases h : 3 ≤ xs.length
  · rw [Nat.min_eq_left h]
  · rw [Nat.min_eq_right (by omega), List.take_of_length_le (Nat.le_refl _), List.take_of_length_le (by omega)]
end Mi

/-! MiQ: points in plain mathematics. -/
namespace Mi
open PySem
def sc (k : Int) (p : List Int) : List Int := p.map fun n => n * k
theorem sc_cons (k x : Int) (p : List Int) : sc k (x :: p) = x * k :: sc k p := rfl
theorem sc_nil (k : Int) : sc k [] = [] := rfl
theorem sc_sc (k l : Int) (p : List Int) : sc k (sc l p) = sc (l * k) p := by
  unfold sc
  rw [List.map_map]
  exact List.map_congr_left fun n _ => Int.mul_assoc n l k
theorem sc_one (p : List Int) : sc 1 p = p := by
  unfold sc
  simp
theorem sc_app (k : Int) (p q : List Int) : sc k (p ++ q) = sc k p ++ sc k q := by simp [sc]
theorem sc_length (k : Int) (p : List Int) : (sc k p).length = p.length := by simp [sc]
theorem gcdL_ne {p : List Int} {x : Int} (hx : x ∈ p) (h0 : x ≠ 0) : gcdL 0 p ≠ 0 := by
  intro e
  have d := (gcdL_dvd p 0).2 x hx
  rw [e] at d
  exact h0 (Int.zero_dvd.mp d)
theorem gcdL_ge : ∀ (p : List Int) (g d : Nat), d ∣ g → (∀ x ∈ p, (d : Int) ∣ x) → d ∣ gcdL g p
  | [], g, d, h, _ => h
  | x :: p, g, d, h, hp => by
    refine gcdL_ge p _ d ?_ fun y hy => hp y (List.mem_cons_of_mem _ hy)
    exact Int.dvd_gcd (Int.natCast_dvd_natCast.mpr h) (hp x List.mem_cons_self)
/-- a row is its lowest one, so many times -/
theorem low_sc (p : List Int) : sc (gcdL 0 p) (lowL p) = p := by
  unfold sc lowL
  rw [List.map_map]
  refine (List.map_congr_left (g := id) fun n hn => ?_).trans (List.map_id p)
  exact Int.ediv_mul_cancel ((gcdL_dvd p 0).2 n hn)
theorem low_mul {p : List Int} {k : Int} (hk : 0 < k) (hg : gcdL 0 p ≠ 0) : lowL (sc k p) = lowL p := lowL_mul hk hg
/-- rows that are alike but for what they are taken times -/
theorem low_eq {p q : List Int} {k l : Int} (hk : 0 < k) (hl : 0 < l) (hp : gcdL 0 p ≠ 0) (hq : gcdL 0 q ≠ 0) (h : sc k p = sc l q) : lowL p = lowL q := by
  rw [← low_mul hk hp, h, low_mul hl hq]
theorem gcdL_sc (p : List Int) (k : Int) : gcdL 0 (sc k p) = gcdL 0 p * k.natAbs := by
  have := gcdL_mul k p 0
  rw [Nat.zero_mul] at this
  exact this
theorem gcdL_low {p : List Int} (h : gcdL 0 p ≠ 0) : gcdL 0 (lowL p) = 1 := by
  have e := gcdL_sc (lowL p) (gcdL 0 p)
  rw [low_sc, Int.natAbs_natCast] at e
  have hp : 0 < gcdL 0 p := Nat.pos_of_ne_zero h
  exact Nat.eq_of_mul_eq_mul_right hp (by rw [Nat.one_mul]; exact e.symm)
theorem low_id {p : List Int} (h : gcdL 0 p = 1) : lowL p = p := by
  have := low_sc p
  rw [h] at this
  exact (sc_one _).symm.trans this
theorem low_low {p : List Int} (h : gcdL 0 p ≠ 0) : lowL (lowL p) = lowL p := low_id (gcdL_low h)
theorem low_one {p : List Int} (h : 1 ∈ p) : gcdL 0 p = 1 := by
  have d := (gcdL_dvd p 0).2 1 h
  have := Int.natAbs_dvd_natAbs.mpr d
  rw [Int.natAbs_natCast] at this
  exact Nat.dvd_one.mp this
theorem low_length (p : List Int) : (lowL p).length = p.length := by simp [lowL]
theorem low_neg (p : List Int) : lowL (sc (-1) p) = sc (-1) (lowL p) := by
  have e := gcdL_sc p (-1)
  rw [show (-1 : Int).natAbs = 1 from rfl, Nat.mul_one] at e
  unfold lowL
  rw [e]
  unfold sc
  rw [List.map_map, List.map_map]
  refine List.map_congr_left fun n hn => ?_
  show n * -1 / _ = n / _ * -1
  rw [Int.mul_comm n, Int.mul_comm (n / _), Int.neg_one_mul, Int.neg_one_mul, Int.neg_ediv_of_dvd ((gcdL_dvd p 0).2 n hn)]
theorem low_bd {p : List Int} {k : Nat} (h : BdL k p) : BdL k (lowL p) := by
  intro x hx
  obtain ⟨n, hn, rfl⟩ := List.mem_map.mp hx
  have := h n hn
  unfold Bd at *
  have h2 : (n / (gcdL 0 p : Int)).natAbs ≤ n.natAbs := by
    have := Int.natAbs_ediv_le_natAbs n (gcdL 0 p : Int)
    exact this
  omega
theorem ptL_sc (p : List Int) (b : Int) : ptL p b = sc (if b < 0 then -1 else 1) (p ++ [b]) := by
  unfold ptL
  split
  · unfold sc
    refine List.map_congr_left fun n _ => ?_
    rw [Int.mul_neg, Int.mul_one]
  · rw [sc_one]
theorem gcdL_pt {p : List Int} {b : Int} (hb : b ≠ 0) : gcdL 0 (ptL p b) ≠ 0 := by
  rw [ptL_sc]
  refine gcdL_ne (x := b * if b < 0 then -1 else 1) ?_ ?_
  · unfold sc
    exact List.mem_map_of_mem (List.mem_append_right _ List.mem_cons_self)
  · split <;> omega
/-- the point of numbers over a bottom -/
def pt (p : List Int) (b : Int) : List Int := lowL (ptL p b)
theorem pt_mul {p : List Int} {b k : Int} (hb : b ≠ 0) (hk : k ≠ 0) : pt (sc k p) (b * k) = pt p b := by
  unfold pt
  have e : ptL (sc k p) (b * k) = sc (k.natAbs : Int) (ptL p b) := by
    rw [ptL_sc, ptL_sc, sc_sc, show [b * k] = sc k [b] from rfl, ← sc_app, sc_sc]
    congr 1
    rcases Int.lt_or_lt_of_ne hb with h1 | h1 <;> rcases Int.lt_or_lt_of_ne hk with h2 | h2
    · rw [if_neg (show ¬ b * k < 0 from Int.not_lt.mpr (Int.le_of_lt (Int.mul_pos_of_neg_of_neg h1 h2))), if_pos h1]; omega
    · rw [if_pos (Int.mul_neg_of_neg_of_pos h1 h2), if_pos h1]; omega
    · rw [if_pos (Int.mul_neg_of_pos_of_neg h1 h2), if_neg (by omega)]; omega
    · rw [if_neg (show ¬ b * k < 0 from Int.not_lt.mpr (Int.le_of_lt (Int.mul_pos h1 h2))), if_neg (by omega)]; omega
  rw [e, low_mul (by omega) (gcdL_pt hb)]
theorem pt_one (p : List Int) : pt p 1 = p ++ [1] := by
  unfold pt ptL
  rw [if_neg (by decide)]
  exact low_id (low_one (by simp))
theorem pt_pos {p : List Int} {b : Int} (hb : 0 < b) : pt p b = lowL (p ++ [b]) := by
  unfold pt ptL
  rw [if_neg (by omega)]
theorem pt_neg {p : List Int} {b : Int} (hb : b < 0) : pt p b = sc (-1) (lowL (p ++ [b])) := by
  unfold pt
  rw [ptL_sc, if_pos hb, low_neg]
theorem ptL_length (p : List Int) (b : Int) : (ptL p b).length = p.length + 1 := by
  rw [ptL_sc, sc_length]
  simp
theorem ptL_bd {p : List Int} {b : Int} {k : Nat} (h : BdL k p) (hb : Bd k b) : BdL k (ptL p b) := by
  intro x hx
  rw [ptL_sc] at hx
  obtain ⟨n, hn, rfl⟩ := List.mem_map.mp hx
  have hn' : Bd k n := by
    rcases List.mem_append.mp hn with q | q
    · exact h n q
    · rw [List.mem_singleton.mp q]; exact hb
  split
  · rw [Int.mul_neg, Int.mul_one]; exact hn'.neg
  · rw [Int.mul_one]; exact hn'
theorem okL_pt {p : List Int} {b : Int} {k : Nat} (h : BdL k p) (hb : Bd k b) (h0 : b ≠ 0) (hk : k < 8900) (hn : p.length < 1000) : okL (ptL p b) := by
  have e := ptL_length p b
  refine okL_of (ptL_bd h hb) (x := b * if b < 0 then -1 else 1) ?_ ?_ hk (by omega)
  · rw [ptL_sc]
    unfold sc
    exact List.mem_map_of_mem (List.mem_append_right _ List.mem_cons_self)
  · split <;> omega
theorem sc_m1 (p : List Int) : sc (-1) p = p.map fun n => 0 - n := by
  unfold sc
  refine List.map_congr_left fun n _ => ?_
  omega
theorem low_sub (p : List Int) : lowL (p.map fun n => 0 - n) = sc (-1) (lowL p) := by
  rw [← sc_m1, low_neg]
theorem bdl_nil {k : Nat} : BdL k [] := fun x h => by simp at h
theorem bdl_cons {k : Nat} {x : Int} {p : List Int} (h : Bd k x) (hp : BdL k p) : BdL k (x :: p) := fun y hy => by
  rcases List.mem_cons.mp hy with rfl | hy
  · exact h
  · exact hp y hy
theorem low_app {p : List Int} {c : Int} (hc : 0 < c) : ∃ q w, lowL (p ++ [c]) = q ++ [w] ∧ q.length = p.length ∧ 0 < w ∧ w ≤ c := by
  refine ⟨_, _, List.map_append .., by simp, ?_, ?_⟩
  · have d := (gcdL_dvd (p ++ [c]) 0).2 c (by simp)
    have g : 0 < gcdL 0 (p ++ [c]) := Nat.pos_of_ne_zero (gcdL_ne (x := c) (by simp) (by omega))
    exact Int.ediv_pos_of_pos_of_dvd hc (by omega) d
  · exact Int.ediv_le_self _ (by omega)
theorem ptL_form (p : List Int) (b : Int) : ptL p b = sc (if b < 0 then -1 else 1) p ++ [(b.natAbs : Int)] := by
  rw [ptL_sc, sc_app]
  congr 1
  show [b * if b < 0 then -1 else 1] = _
  congr 1
  split <;> omega
theorem pt_form {p : List Int} {b : Int} (hb : b ≠ 0) : ∃ q w, pt p b = q ++ [w] ∧ q.length = p.length ∧ 0 < w := by
  unfold pt
  rw [ptL_form]
  obtain ⟨q, w, e, h1, h2, _⟩ := low_app (p := sc (if b < 0 then -1 else 1) p) (c := (b.natAbs : Int)) (by omega)
  exact ⟨q, w, e, by rw [h1, sc_length], h2⟩
theorem pt_bd {p : List Int} {b : Int} {k : Nat} (h : BdL k p) (hb : Bd k b) : BdL k (pt p b) := low_bd (ptL_bd h hb)
theorem pt_3 {a b e : Int} {k : Nat} (ha : Bd k a) (hb : Bd k b) (he : Bd k e) (h0 : e ≠ 0) : ∃ u v w, pt [a, b] e = [u, v, w] ∧ 0 < w ∧ Bd k u ∧ Bd k v ∧ Bd k w := by
  obtain ⟨q, w, e1, e2, h⟩ := pt_form (p := [a, b]) h0
  have bd := pt_bd (bdl_cons ha (bdl_cons hb bdl_nil)) he
  rw [e1] at bd
  match q, e2 with
  | [u, v], _ => exact ⟨u, v, w, e1, h, bd u (by simp), bd v (by simp), bd w (by simp)⟩
theorem pt_4 {a b c e : Int} {k : Nat} (ha : Bd k a) (hb : Bd k b) (hc : Bd k c) (he : Bd k e) (h0 : e ≠ 0) : ∃ u v z w, pt [a, b, c] e = [u, v, z, w] ∧ 0 < w ∧ Bd k u ∧ Bd k v ∧ Bd k z ∧ Bd k w := by
  obtain ⟨q, w, e1, e2, h⟩ := pt_form (p := [a, b, c]) h0
  have bd := pt_bd (bdl_cons ha (bdl_cons hb (bdl_cons hc bdl_nil))) he
  rw [e1] at bd
  match q, e2 with
  | [u, v, z], _ => exact ⟨u, v, z, w, e1, h, bd u (by simp), bd v (by simp), bd z (by simp), bd w (by simp)⟩
theorem low_3 (a b c : Int) : ∃ u v w, lowL [a, b, c] = [u, v, w] := ⟨_, _, _, rfl⟩
theorem low_4 (a b c d : Int) : ∃ u v w z, lowL [a, b, c, d] = [u, v, w, z] := ⟨_, _, _, _, rfl⟩
theorem bd_smal {k : Nat} {x : Int} (h : Bd k x) (hk : k < 8900) : smal x := Nat.lt_of_le_of_lt h.log hk
theorem bd40 {x : Int} (h : x.natAbs ≤ 10000000000000000000000000000000000000000) : Bd 140 x := Nat.lt_of_le_of_lt h (by decide)
end Mi

/-! MiR: what points do with one another, in plain mathematics. -/
namespace Mi
open PySem
def addP : List Int → List Int → List Int
  | [a, b, w], [c, d, v] => [a * v + c * w, b * v + d * w, w * v]
  | [a, b, e, w], [c, d, f, v] => [a * v + c * w, b * v + d * w, e * v + f * w, w * v]
  | _, _ => []
def ngP : List Int → List Int
  | [a, b, w] => [-a, -b, w]
  | [a, b, c, w] => [-a, -b, -c, w]
  | _ => []
def dblP : List Int → List Int
  | [a, b, w] => [a, b, 2 * w]
  | [a, b, c, w] => [a, b, c, 2 * w]
  | _ => []
def Raw (d : Nat) (p : List Int) : Prop := (d = 2 ∧ ∃ a b w, p = [a, b, w] ∧ 0 < w) ∨ (d = 3 ∧ ∃ a b c w, p = [a, b, c, w] ∧ 0 < w)
structure Pt (d k : Nat) (p : List Int) : Prop where
  raw : Raw d p
  bd : BdL k p
  low : gcdL 0 p = 1
theorem Pt.id {d k : Nat} {p : List Int} (h : Pt d k p) : lowL p = p := low_id h.low
theorem Pt.le {d k l : Nat} {p : List Int} (h : Pt d k p) (hl : k ≤ l) : Pt d l p := ⟨h.raw, fun x hx => (h.bd x hx).le hl, h.low⟩
theorem Pt.c2 {k : Nat} {p : List Int} (h : Pt 2 k p) : ∃ a b w, p = [a, b, w] ∧ 0 < w ∧ Bd k a ∧ Bd k b ∧ Bd k w := by
  rcases h.raw with ⟨_, a, b, w, rfl, hw⟩ | ⟨h, _⟩
  · exact ⟨a, b, w, rfl, hw, h.bd a (by simp), h.bd b (by simp), h.bd w (by simp)⟩
  · cases h
theorem Pt.c3 {k : Nat} {p : List Int} (h : Pt 3 k p) : ∃ a b c w, p = [a, b, c, w] ∧ 0 < w ∧ Bd k a ∧ Bd k b ∧ Bd k c ∧ Bd k w := by
  rcases h.raw with ⟨h, _⟩ | ⟨_, a, b, c, w, rfl, hw⟩
  · cases h
  · exact ⟨a, b, c, w, rfl, hw, h.bd a (by simp), h.bd b (by simp), h.bd c (by simp), h.bd w (by simp)⟩
theorem raw_d {d : Nat} {p : List Int} (h : Raw d p) : d = 2 ∨ d = 3 := by
  rcases h with ⟨rfl, _⟩ | ⟨rfl, _⟩
  · exact .inl rfl
  · exact .inr rfl
theorem raw_length {d : Nat} {p : List Int} (h : Raw d p) : p.length = d + 1 := by
  rcases h with ⟨rfl, a, b, w, rfl, _⟩ | ⟨rfl, a, b, c, w, rfl, _⟩ <;> rfl
theorem raw_ne {d : Nat} {p : List Int} (h : Raw d p) : gcdL 0 p ≠ 0 := by
  rcases h with ⟨_, a, b, w, rfl, hw⟩ | ⟨_, a, b, c, w, rfl, hw⟩ <;> exact gcdL_ne (x := w) (by simp) (by omega)
theorem raw_2 {a b w : Int} (h : 0 < w) : Raw 2 [a, b, w] := .inl ⟨rfl, _, _, _, rfl, h⟩
theorem raw_3 {a b c w : Int} (h : 0 < w) : Raw 3 [a, b, c, w] := .inr ⟨rfl, _, _, _, _, rfl, h⟩
theorem low_div {p : List Int} {w : Int} (hx : w ∈ p) (hw : 0 < w) : 0 < w / (gcdL 0 p : Int) := by
  have d := (gcdL_dvd p 0).2 w hx
  have g : 0 < gcdL 0 p := Nat.pos_of_ne_zero (gcdL_ne hx (by omega))
  exact Int.ediv_pos_of_pos_of_dvd hw (by omega) d
theorem raw_low {d : Nat} {p : List Int} (h : Raw d p) : Raw d (lowL p) := by
  rcases h with ⟨rfl, a, b, w, rfl, hw⟩ | ⟨rfl, a, b, c, w, rfl, hw⟩
  · exact raw_2 (low_div (by simp) hw)
  · exact raw_3 (low_div (by simp) hw)
theorem raw_sc {d : Nat} {p : List Int} {k : Int} (hk : 0 < k) (h : Raw d p) : Raw d (sc k p) := by
  rcases h with ⟨rfl, a, b, w, rfl, hw⟩ | ⟨rfl, a, b, c, w, rfl, hw⟩
  · exact raw_2 (Int.mul_pos hw hk)
  · exact raw_3 (Int.mul_pos hw hk)
theorem raw_add {d : Nat} {p q : List Int} (h : Raw d p) (h' : Raw d q) : Raw d (addP p q) := by
  rcases h with ⟨rfl, a, b, w, rfl, hw⟩ | ⟨rfl, a, b, c, w, rfl, hw⟩ <;> rcases h' with ⟨h, a', b', w', rfl, hw'⟩ | ⟨h, a', b', c', w', rfl, hw'⟩ <;> cases h
  · exact raw_2 (Int.mul_pos hw hw')
  · exact raw_3 (Int.mul_pos hw hw')
theorem raw_ng {d : Nat} {p : List Int} (h : Raw d p) : Raw d (ngP p) := by
  rcases h with ⟨rfl, a, b, w, rfl, hw⟩ | ⟨rfl, a, b, c, w, rfl, hw⟩
  · exact raw_2 hw
  · exact raw_3 hw
theorem raw_dbl {d : Nat} {p : List Int} (h : Raw d p) : Raw d (dblP p) := by
  rcases h with ⟨rfl, a, b, w, rfl, hw⟩ | ⟨rfl, a, b, c, w, rfl, hw⟩
  · exact raw_2 (by omega)
  · exact raw_3 (by omega)
theorem Raw.pt {d k : Nat} {p : List Int} (h : Raw d p) (hb : BdL k p) : Pt d k (lowL p) := ⟨raw_low h, low_bd hb, gcdL_low (raw_ne h)⟩
theorem add_comm {d : Nat} {p q : List Int} (h : Raw d p) (h' : Raw d q) : addP p q = addP q p := by
  rcases h with ⟨rfl, a, b, w, rfl, hw⟩ | ⟨rfl, a, b, c, w, rfl, hw⟩ <;> rcases h' with ⟨h, a', b', w', rfl, hw'⟩ | ⟨h, a', b', c', w', rfl, hw'⟩ <;> cases h <;> simp only [addP, List.cons.injEq, and_true] <;> grind
theorem add_assoc {d : Nat} {p q r : List Int} (h : Raw d p) (h' : Raw d q) (h2 : Raw d r) : addP (addP p q) r = addP p (addP q r) := by
  rcases h with ⟨rfl, a, b, w, rfl, hw⟩ | ⟨rfl, a, b, c, w, rfl, hw⟩ <;> rcases h' with ⟨h, a', b', w', rfl, hw'⟩ | ⟨h, a', b', c', w', rfl, hw'⟩ <;> cases h <;> rcases h2 with ⟨h, a2, b2, w2, rfl, hw'⟩ | ⟨h, a2, b2, c2, w2, rfl, hw'⟩ <;> cases h <;> simp only [addP, List.cons.injEq, and_true] <;> grind
theorem add_scl {d : Nat} {p q : List Int} (k : Int) (h : Raw d p) (h' : Raw d q) : addP (sc k p) q = sc k (addP p q) := by
  rcases h with ⟨rfl, a, b, w, rfl, hw⟩ | ⟨rfl, a, b, c, w, rfl, hw⟩ <;> rcases h' with ⟨h, a', b', w', rfl, hw'⟩ | ⟨h, a', b', c', w', rfl, hw'⟩ <;> cases h <;> simp only [addP, sc, List.map_cons, List.map_nil, List.cons.injEq, and_true] <;> grind
theorem ng_sc {d : Nat} {p : List Int} (k : Int) (h : Raw d p) : ngP (sc k p) = sc k (ngP p) := by
  rcases h with ⟨rfl, a, b, w, rfl, hw⟩ | ⟨rfl, a, b, c, w, rfl, hw⟩ <;> simp only [ngP, sc, List.map_cons, List.map_nil, List.cons.injEq, and_true] <;> grind
theorem dbl_sc {d : Nat} {p : List Int} (k : Int) (h : Raw d p) : dblP (sc k p) = sc k (dblP p) := by
  rcases h with ⟨rfl, a, b, w, rfl, hw⟩ | ⟨rfl, a, b, c, w, rfl, hw⟩ <;> simp only [dblP, sc, List.map_cons, List.map_nil, List.cons.injEq, and_true] <;> grind
theorem ng_ng {d : Nat} {p : List Int} (h : Raw d p) : ngP (ngP p) = p := by
  rcases h with ⟨rfl, a, b, w, rfl, hw⟩ | ⟨rfl, a, b, c, w, rfl, hw⟩ <;> simp only [ngP, Int.neg_neg]
theorem ng_add {d : Nat} {p q : List Int} (h : Raw d p) (h' : Raw d q) : ngP (addP p q) = addP (ngP p) (ngP q) := by
  rcases h with ⟨rfl, a, b, w, rfl, hw⟩ | ⟨rfl, a, b, c, w, rfl, hw⟩ <;> rcases h' with ⟨h, a', b', w', rfl, hw'⟩ | ⟨h, a', b', c', w', rfl, hw'⟩ <;> cases h <;> simp only [addP, ngP, List.cons.injEq, and_true] <;> grind
/-- the last number -/
def lst (p : List Int) : Int := p.getLastD 0
theorem add_ng {d : Nat} {p q : List Int} (h : Raw d p) (h' : Raw d q) : addP (addP p q) (ngP q) = sc (lst q * lst q) p := by
  rcases h with ⟨rfl, a, b, w, rfl, hw⟩ | ⟨rfl, a, b, c, w, rfl, hw⟩ <;> rcases h' with ⟨h, a', b', w', rfl, hw'⟩ | ⟨h, a', b', c', w', rfl, hw'⟩ <;> cases h <;> simp only [addP, ngP, lst, sc, List.getLastD_cons, List.getLastD_nil, List.map_cons, List.map_nil, List.cons.injEq, and_true] <;> grind
theorem add_ng' {d : Nat} {p q : List Int} (h : Raw d p) (h' : Raw d q) : addP (addP p (ngP q)) q = sc (lst q * lst q) p := by
  rcases h with ⟨rfl, a, b, w, rfl, hw⟩ | ⟨rfl, a, b, c, w, rfl, hw⟩ <;> rcases h' with ⟨h, a', b', w', rfl, hw'⟩ | ⟨h, a', b', c', w', rfl, hw'⟩ <;> cases h <;> simp only [addP, ngP, lst, sc, List.getLastD_cons, List.getLastD_nil, List.map_cons, List.map_nil, List.cons.injEq, and_true] <;> grind
theorem dbl_add {d : Nat} {p : List Int} (h : Raw d p) : dblP (addP p p) = sc (2 * lst p) p := by
  rcases h with ⟨rfl, a, b, w, rfl, hw⟩ | ⟨rfl, a, b, c, w, rfl, hw⟩ <;> simp only [addP, dblP, lst, sc, List.getLastD_cons, List.getLastD_nil, List.map_cons, List.map_nil, List.cons.injEq, and_true] <;> grind
theorem raw_lst {d : Nat} {p : List Int} (h : Raw d p) : 0 < lst p := by
  rcases h with ⟨rfl, a, b, w, rfl, hw⟩ | ⟨rfl, a, b, c, w, rfl, hw⟩ <;> simpa [lst] using hw
/-! in lowest terms -/
def addS (p q : List Int) : List Int := lowL (addP p q)
def amdS (p q : List Int) : List Int := lowL (dblP (addS p q))
section
variable {d : Nat} {p q r : List Int}
theorem low_addl (h : Raw d p) (h' : Raw d q) : lowL (addP (lowL p) q) = lowL (addP p q) := by
  have e := add_scl (gcdL 0 p) (raw_low h) h'
  rw [low_sc] at e
  rw [e, low_mul _ (raw_ne (raw_add (raw_low h) h'))]
  have := Nat.pos_of_ne_zero (raw_ne h)
  omega
theorem low_addr (h : Raw d p) (h' : Raw d q) : lowL (addP p (lowL q)) = lowL (addP p q) := by
  rw [add_comm h (raw_low h'), low_addl h' h, add_comm h' h]
theorem ng_low (h : Raw d p) : ngP (lowL p) = lowL (ngP p) := by
  have e := ng_sc (gcdL 0 p) (raw_low h)
  rw [low_sc] at e
  have g : (0 : Int) < gcdL 0 p := by
    have := Nat.pos_of_ne_zero (raw_ne h)
    omega
  rw [e, low_mul g (raw_ne (raw_ng (raw_low h)))]
  have e1 : gcdL 0 (ngP (lowL p)) = 1 := by
    have e2 := gcdL_low (raw_ne h)
    rcases raw_low h with ⟨_, a, b, w, e3, _⟩ | ⟨_, a, b, c, w, e3, _⟩ <;> rw [e3] at e2 ⊢ <;> simpa [gcdL, ngP] using e2
  exact (low_id e1).symm
theorem dbl_low (h : Raw d p) : lowL (dblP (lowL p)) = lowL (dblP p) := by
  have e := dbl_sc (gcdL 0 p) (raw_low h)
  rw [low_sc] at e
  rw [e, low_mul _ (raw_ne (raw_dbl (raw_low h)))]
  have := Nat.pos_of_ne_zero (raw_ne h)
  omega
theorem low_sc' {k : Int} (hk : 0 < k) (h : Raw d p) : lowL (sc k p) = lowL p := low_mul hk (raw_ne h)
theorem addS_comm (h : Raw d p) (h' : Raw d q) : addS p q = addS q p := by unfold addS; rw [add_comm h h']
theorem raw_addS (h : Raw d p) (h' : Raw d q) : Raw d (addS p q) := raw_low (raw_add h h')
theorem raw_amdS (h : Raw d p) (h' : Raw d q) : Raw d (amdS p q) := raw_low (raw_dbl (raw_addS h h'))
theorem addS_assoc (h : Raw d p) (h' : Raw d q) (h2 : Raw d r) : addS (addS p q) r = addS p (addS q r) := by
  unfold addS
  rw [low_addl (raw_add h h') h2, low_addr h (raw_add h' h2), add_assoc h h' h2]
theorem addS_ng (h : Raw d p) (h' : Raw d q) : addS (addS p q) (ngP q) = lowL p := by
  unfold addS
  rw [low_addl (raw_add h h') (raw_ng h'), add_ng h h', low_sc' (Int.mul_pos (raw_lst h') (raw_lst h')) h]
theorem addS_ng' (h : Raw d p) (h' : Raw d q) : addS (addS p (ngP q)) q = lowL p := by
  unfold addS
  rw [low_addl (raw_add h (raw_ng h')) h', add_ng' h h', low_sc' (Int.mul_pos (raw_lst h') (raw_lst h')) h]
theorem ngP_addS (h : Raw d p) (h' : Raw d q) : ngP (addS p q) = addS (ngP p) (ngP q) := by
  unfold addS
  rw [ng_low (raw_add h h'), ng_add h h']
theorem amdS_self (h : Raw d p) : amdS p p = lowL p := by
  unfold amdS addS
  rw [dbl_low (raw_add h h), dbl_add h, low_sc' (by have := raw_lst h; omega) h]
theorem amdS_comm (h : Raw d p) (h' : Raw d q) : amdS p q = amdS q p := by unfold amdS; rw [addS_comm h h']
end
theorem max_le_add1 (k l : Nat) : max k l + 1 ≤ k + l + 1 := by omega
theorem addP_bd {d k l : Nat} {p q : List Int} (h : Raw d p) (h' : Raw d q) (hp : BdL k p) (hq : BdL l q) : BdL (k + l + 1) (addP p q) := by
  have m : ∀ {x y z u : Int}, x ∈ p → y ∈ q → z ∈ q → u ∈ p → Bd (k + l + 1) (x * y + z * u) := fun hx hy hz hu => by
    have h1 := (hp _ hx).mul (hq _ hy)
    have h2 := (hq _ hz).mul (hp _ hu)
    exact (h1.add h2).le (by omega)
  have m2 : ∀ {x y : Int}, x ∈ p → y ∈ q → Bd (k + l + 1) (x * y) := fun hx hy => ((hp _ hx).mul (hq _ hy)).le (by omega)
  rcases h with ⟨rfl, a, b, w, rfl, hw⟩ | ⟨rfl, a, b, c, w, rfl, hw⟩ <;> rcases h' with ⟨h, a', b', w', rfl, hw'⟩ | ⟨h, a', b', c', w', rfl, hw'⟩ <;> cases h
  · exact bdl_cons (m (by simp) (by simp) (by simp) (by simp)) (bdl_cons (m (by simp) (by simp) (by simp) (by simp)) (bdl_cons (m2 (by simp) (by simp)) bdl_nil))
  · exact bdl_cons (m (by simp) (by simp) (by simp) (by simp)) (bdl_cons (m (by simp) (by simp) (by simp) (by simp)) (bdl_cons (m (by simp) (by simp) (by simp) (by simp)) (bdl_cons (m2 (by simp) (by simp)) bdl_nil)))
theorem Pt.add {d k l : Nat} {p q : List Int} (h : Pt d k p) (h' : Pt d l q) : Pt d (k + l + 1) (addS p q) := (raw_add h.raw h'.raw).pt (addP_bd h.raw h'.raw h.bd h'.bd)
theorem ngP_bd {d k : Nat} {p : List Int} (h : Raw d p) (hp : BdL k p) : BdL k (ngP p) := by
  rcases h with ⟨rfl, a, b, w, rfl, hw⟩ | ⟨rfl, a, b, c, w, rfl, hw⟩
  · exact bdl_cons (hp a (by simp)).neg (bdl_cons (hp b (by simp)).neg (bdl_cons (hp w (by simp)) bdl_nil))
  · exact bdl_cons (hp a (by simp)).neg (bdl_cons (hp b (by simp)).neg (bdl_cons (hp c (by simp)).neg (bdl_cons (hp w (by simp)) bdl_nil)))
theorem Pt.ng {d k : Nat} {p : List Int} (h : Pt d k p) : Pt d k (ngP p) := by
  have e : ngP p = lowL (ngP p) := by
    have := ng_low h.raw
    rwa [h.id] at this
  rw [e]
  exact (raw_ng h.raw).pt (ngP_bd h.raw h.bd)
theorem dblP_bd {d k : Nat} {p : List Int} (h : Raw d p) (hp : BdL k p) : BdL (k + 2) (dblP p) := by
  have two : Bd 2 2 := by unfold Bd; decide
  have up : ∀ {x : Int}, x ∈ p → Bd (k + 2) x := fun hx => (hp _ hx).le (by omega)
  rcases h with ⟨rfl, a, b, w, rfl, hw⟩ | ⟨rfl, a, b, c, w, rfl, hw⟩
  · exact bdl_cons (up (by simp)) (bdl_cons (up (by simp)) (bdl_cons ((two.mul (hp w (by simp))).le (by omega)) bdl_nil))
  · exact bdl_cons (up (by simp)) (bdl_cons (up (by simp)) (bdl_cons (up (by simp)) (bdl_cons ((two.mul (hp w (by simp))).le (by omega)) bdl_nil)))
theorem Pt.amd {d k l : Nat} {p q : List Int} (h : Pt d k p) (h' : Pt d l q) : Pt d (k + l + 3) (amdS p q) := (raw_dbl (h.add h').raw).pt (dblP_bd (h.add h').raw (h.add h').bd)
theorem Pt.length {d k : Nat} {p : List Int} (h : Pt d k p) : p.length = d + 1 := raw_length h.raw
theorem raw_mk2 {a b w : Int} {k : Nat} (ha : Bd k a) (hb : Bd k b) (hw : Bd k w) (h : 0 < w) : Pt 2 k (lowL [a, b, w]) := (raw_2 h).pt (bdl_cons ha (bdl_cons hb (bdl_cons hw bdl_nil)))
theorem raw_mk3 {a b c w : Int} {k : Nat} (ha : Bd k a) (hb : Bd k b) (hc : Bd k c) (hw : Bd k w) (h : 0 < w) : Pt 3 k (lowL [a, b, c, w]) := (raw_3 h).pt (bdl_cons ha (bdl_cons hb (bdl_cons hc (bdl_cons hw bdl_nil))))
theorem raw_okL {d k : Nat} {p : List Int} (h : Raw d p) (hb : BdL k p) (hk : k < 8900) : okL p := by
  have := raw_length h
  rcases h with ⟨rfl, a, b, w, e, hw⟩ | ⟨rfl, a, b, c, w, e, hw⟩ <;> exact okL_of hb (x := w) (by rw [e]; simp) (by omega) hk (by omega)
theorem bd_41 {x : Int} (h : -1000000000000 ≤ x) (h2 : x ≤ 1000000000000) : Bd 41 x := by
  unfold Bd
  exact Nat.lt_of_le_of_lt (show x.natAbs ≤ 1000000000000 by omega) (by decide)
/-- where a move takes a point -/
def mvS (w : Int) (a p : List Int) : List Int := if w = 1 then addS p a else addS a (ngP p)
theorem mvS_1 (a p : List Int) : mvS 1 a p = addS p a := by simp [mvS]
theorem mvS_m (a p : List Int) : mvS (-1) a p = addS a (ngP p) := by simp [mvS]
theorem Pt.mv {d k l : Nat} {w : Int} {a p : List Int} (h : Pt d k p) (h' : Pt d l a) : Pt d (k + l + 1) (mvS w a p) := by
  unfold mvS
  split
  · exact h.add h'
  · exact (h'.add h.ng).le (by omega)
def unS (w : Int) (a : List Int) : List Int := if w = 1 then ngP a else a
theorem unS_1 (a : List Int) : unS 1 a = ngP a := by simp [unS]
theorem unS_m (a : List Int) : unS (-1) a = a := by simp [unS]
theorem Pt.un {d k : Nat} {w : Int} {a : List Int} (h : Pt d k a) : Pt d k (unS w a) := by
  unfold unS
  split
  · exact h.ng
  · exact h
/-- one half of both signs -/
def Way (w : Int) : Prop := w = 1 ∨ w = -1
theorem Way.mul {w v : Int} (h : Way w) (h' : Way v) : Way (w * v) := by
  rcases h with rfl | rfl <;> rcases h' with rfl | rfl <;> simp [Way]
theorem Way.small {w : Int} (h : Way w) : w.natAbs < 2 ^ 64 := by rcases h with rfl | rfl <;> decide
theorem addS_mid {d : Nat} {p q r : List Int} (h : Raw d p) (h' : Raw d q) (h2 : Raw d r) : addS (addS p q) r = addS (addS p r) q := by
  rw [addS_assoc h h' h2, addS_comm h' h2, ← addS_assoc h h2 h']
theorem mv_after {d : Nat} {w v : Int} {a b p : List Int} (hw : Way w) (hv : Way v) (ha : Raw d a) (hb : Raw d b) (hp : Raw d p) : mvS (w * v) (mvS v b a) p = mvS v b (mvS w a p) := by
  rcases hw with rfl | rfl <;> rcases hv with rfl | rfl
  · rw [show (1 : Int) * 1 = 1 from rfl, mvS_1, mvS_1, mvS_1, mvS_1, addS_assoc hp ha hb]
  · rw [show (1 : Int) * -1 = -1 from rfl, mvS_m, mvS_m, mvS_m, mvS_1, ngP_addS hp ha, addS_assoc hb (raw_ng ha) (raw_ng hp), addS_comm (raw_ng ha) (raw_ng hp)]
  · rw [show (-1 : Int) * 1 = -1 from rfl, mvS_m, mvS_1, mvS_1, mvS_m, addS_mid ha hb (raw_ng hp)]
  · rw [show (-1 : Int) * -1 = 1 from rfl, mvS_1, mvS_m, mvS_m, mvS_m, ngP_addS ha (raw_ng hp), ng_ng hp, ← addS_assoc hp hb (raw_ng ha), addS_mid hp hb (raw_ng ha), addS_comm (raw_addS hp (raw_ng ha)) hb, addS_comm (raw_ng ha) hp]
theorem mv_un {d : Nat} {w : Int} {a p : List Int} (hw : Way w) (ha : Raw d a) (hp : Raw d p) : mvS w (unS w a) (mvS w a p) = lowL p := by
  rcases hw with rfl | rfl
  · rw [unS_1, mvS_1, mvS_1, addS_ng hp ha]
  · rw [unS_m, mvS_m, mvS_m, ngP_addS ha (raw_ng hp), ng_ng hp, addS_comm (raw_ng ha) hp, addS_comm ha (raw_addS hp (raw_ng ha)), addS_ng' hp ha]
/-- nought -/
def zero : Nat → List Int
  | 2 => [0, 0, 1]
  | _ => [0, 0, 0, 1]
theorem add_zero {d : Nat} {a : List Int} (ha : Raw d a) : addS a (ngP a) = zero d := by
  have e : addP a (ngP a) = sc (lst a * lst a) (zero d) := by
    rcases ha with ⟨rfl, a, b, w, rfl, hw⟩ | ⟨rfl, a, b, c, w, rfl, hw⟩ <;> simp only [addP, ngP, lst, zero, sc, List.getLastD_cons, List.getLastD_nil, List.map_cons, List.map_nil, List.cons.injEq, and_true] <;> grind
  have z : Raw d (zero d) := by
    rcases raw_d ha with rfl | rfl
    · exact raw_2 (by decide)
    · exact raw_3 (by decide)
  unfold addS
  rw [e, low_sc' (Int.mul_pos (raw_lst ha) (raw_lst ha)) z]
  rcases raw_d ha with rfl | rfl <;> exact low_id (low_one (by decide))
theorem mv_still {d : Nat} {w : Int} {a : List Int} (hw : Way w) (ha : Raw d a) : mvS w (unS w a) a = zero d ∧ mvS w a (unS w a) = zero d := by
  rcases hw with rfl | rfl
  · rw [unS_1, mvS_1, mvS_1, addS_comm (raw_ng ha) ha, add_zero ha]; exact ⟨rfl, rfl⟩
  · rw [unS_m, mvS_m, add_zero ha]; exact ⟨rfl, rfl⟩
theorem un_un {d : Nat} {w : Int} {a : List Int} (hw : Way w) (ha : Raw d a) : unS w (unS w a) = a := by
  rcases hw with rfl | rfl
  · rw [unS_1, unS_1, ng_ng ha]
  · rw [unS_m, unS_m]
end Mi

/-! MiS: on which side points lie, in plain mathematics. -/
namespace Mi
open PySem
theorem raw2_inv {p : List Int} (h : Raw 2 p) : ∃ a b w, p = [a, b, w] ∧ 0 < w := by
  rcases h with ⟨_, h⟩ | ⟨h, _⟩
  · exact h
  · cases h
theorem raw3_inv {p : List Int} (h : Raw 3 p) : ∃ a b c w, p = [a, b, c, w] ∧ 0 < w := by
  rcases h with ⟨h, _⟩ | ⟨_, h⟩
  · cases h
  · exact h
/-- the determinant of the points' numbers, the last ones first -/
def hdt : List (List Int) → Int
  | [[a, b, w], [c, d, v], [e, f, u]] => w * (c * f - d * e) - v * (a * f - b * e) + u * (a * d - b * c)
  | [[x0, y0, z0, w0], [x1, y1, z1, w1], [x2, y2, z2, w2], [x3, y3, z3, w3]] =>
    w0 * (x1 * (y2 * z3 - z2 * y3) + y1 * (z2 * x3 - x2 * z3) + z1 * (x2 * y3 - y2 * x3)) - w1 * (x0 * (y2 * z3 - z2 * y3) + y0 * (z2 * x3 - x2 * z3) + z0 * (x2 * y3 - y2 * x3))
      + w2 * (x0 * (y1 * z3 - z1 * y3) + y0 * (z1 * x3 - x1 * z3) + z0 * (x1 * y3 - y1 * x3)) - w3 * (x0 * (y1 * z2 - z1 * y2) + y0 * (z1 * x2 - x1 * z2) + z0 * (x1 * y2 - y1 * x2))
  | _ => 0
def sdS (ps : List (List Int)) : Int := rk (hdt ps)
theorem rk_pos {c z : Int} (h : 0 < c) : rk (c * z) = rk z := by
  unfold rk
  rcases Int.lt_trichotomy z 0 with h1 | h1 | h1
  · have := Int.mul_neg_of_pos_of_neg h h1
    rw [if_neg (by omega), if_pos this, if_neg (by omega), if_pos h1]
  · subst h1; simp
  · have := Int.mul_pos h h1
    rw [if_pos this, if_neg (by omega), if_pos h1, if_neg (by omega)]
theorem rk_neg (z : Int) : rk (-z) = -rk z := by
  unfold rk
  rcases Int.lt_trichotomy z 0 with h1 | h1 | h1
  · rw [if_pos (by omega), if_neg (by omega), if_neg (by omega), if_pos h1]; rfl
  · subst h1; simp
  · rw [if_neg (by omega), if_pos (by omega), if_pos h1, if_neg (by omega)]; rfl
theorem sd_of {ps qs : List (List Int)} {c : Int} (hc : 0 < c) (h : hdt ps = c * hdt qs) : sdS ps = sdS qs := by
  unfold sdS
  rw [h, rk_pos hc]
section
variable {p q r s : List Int}
/-- one point so many times -/
theorem hdt_sc2 (k : Int) (hp : Raw 2 p) (hq : Raw 2 q) (hr : Raw 2 r) : hdt [sc k p, q, r] = k * hdt [p, q, r] ∧ hdt [p, sc k q, r] = k * hdt [p, q, r] ∧ hdt [p, q, sc k r] = k * hdt [p, q, r] := by
  obtain ⟨a, b, w, rfl, _⟩ := raw2_inv hp
  obtain ⟨c, d, v, rfl, _⟩ := raw2_inv hq
  obtain ⟨e, f, u, rfl, _⟩ := raw2_inv hr
  simp only [sc, List.map_cons, List.map_nil, hdt]
  refine ⟨?_, ?_, ?_⟩ <;> grind
theorem hdt_sc3 (k : Int) (hp : Raw 3 p) (hq : Raw 3 q) (hr : Raw 3 r) (hs : Raw 3 s) : hdt [sc k p, q, r, s] = k * hdt [p, q, r, s] ∧ hdt [p, sc k q, r, s] = k * hdt [p, q, r, s] ∧ hdt [p, q, sc k r, s] = k * hdt [p, q, r, s] ∧ hdt [p, q, r, sc k s] = k * hdt [p, q, r, s] := by
  obtain ⟨x0, y0, z0, w0, rfl, _⟩ := raw3_inv hp
  obtain ⟨x1, y1, z1, w1, rfl, _⟩ := raw3_inv hq
  obtain ⟨x2, y2, z2, w2, rfl, _⟩ := raw3_inv hr
  obtain ⟨x3, y3, z3, w3, rfl, _⟩ := raw3_inv hs
  simp only [sc, List.map_cons, List.map_nil, hdt]
  refine ⟨?_, ?_, ?_, ?_⟩ <;> grind
theorem gcd_pos' {d : Nat} (hp : Raw d p) : (0 : Int) < gcdL 0 p := by
  have := Nat.pos_of_ne_zero (raw_ne hp)
  omega
theorem sd_low2 (hp : Raw 2 p) (hq : Raw 2 q) (hr : Raw 2 r) : sdS [lowL p, q, r] = sdS [p, q, r] ∧ sdS [p, lowL q, r] = sdS [p, q, r] ∧ sdS [p, q, lowL r] = sdS [p, q, r] := by
  refine ⟨?_, ?_, ?_⟩
  · have := (hdt_sc2 (gcdL 0 p) (raw_low hp) hq hr).1
    rw [low_sc] at this
    exact (sd_of (gcd_pos' hp) this).symm
  · have := (hdt_sc2 (gcdL 0 q) hp (raw_low hq) hr).2.1
    rw [low_sc] at this
    exact (sd_of (gcd_pos' hq) this).symm
  · have := (hdt_sc2 (gcdL 0 r) hp hq (raw_low hr)).2.2
    rw [low_sc] at this
    exact (sd_of (gcd_pos' hr) this).symm
theorem sd_low3 (hp : Raw 3 p) (hq : Raw 3 q) (hr : Raw 3 r) (hs : Raw 3 s) : sdS [lowL p, q, r, s] = sdS [p, q, r, s] ∧ sdS [p, lowL q, r, s] = sdS [p, q, r, s] ∧ sdS [p, q, lowL r, s] = sdS [p, q, r, s] ∧ sdS [p, q, r, lowL s] = sdS [p, q, r, s] := by
  refine ⟨?_, ?_, ?_, ?_⟩
  · have := (hdt_sc3 (gcdL 0 p) (raw_low hp) hq hr hs).1
    rw [low_sc] at this
    exact (sd_of (gcd_pos' hp) this).symm
  · have := (hdt_sc3 (gcdL 0 q) hp (raw_low hq) hr hs).2.1
    rw [low_sc] at this
    exact (sd_of (gcd_pos' hq) this).symm
  · have := (hdt_sc3 (gcdL 0 r) hp hq (raw_low hr) hs).2.2.1
    rw [low_sc] at this
    exact (sd_of (gcd_pos' hr) this).symm
  · have := (hdt_sc3 (gcdL 0 s) hp hq hr (raw_low hs)).2.2.2
    rw [low_sc] at this
    exact (sd_of (gcd_pos' hs) this).symm
theorem sd_lows2 (hp : Raw 2 p) (hq : Raw 2 q) (hr : Raw 2 r) : sdS [lowL p, lowL q, lowL r] = sdS [p, q, r] := by
  rw [(sd_low2 hp (raw_low hq) (raw_low hr)).1, (sd_low2 hp hq (raw_low hr)).2.1, (sd_low2 hp hq hr).2.2]
theorem sd_lows3 (hp : Raw 3 p) (hq : Raw 3 q) (hr : Raw 3 r) (hs : Raw 3 s) : sdS [lowL p, lowL q, lowL r, lowL s] = sdS [p, q, r, s] := by
  rw [(sd_low3 hp (raw_low hq) (raw_low hr) (raw_low hs)).1, (sd_low3 hp hq (raw_low hr) (raw_low hs)).2.1, (sd_low3 hp hq hr (raw_low hs)).2.2.1, (sd_low3 hp hq hr hs).2.2.2]
/-- all pushed -/
theorem sd_add2 {f : List Int} (hp : Raw 2 p) (hq : Raw 2 q) (hr : Raw 2 r) (hf : Raw 2 f) : sdS [addS p f, addS q f, addS r f] = sdS [p, q, r] := by
  unfold addS
  rw [sd_lows2 (raw_add hp hf) (raw_add hq hf) (raw_add hr hf)]
  refine sd_of (c := lst f * lst f * lst f) (Int.mul_pos (Int.mul_pos (raw_lst hf) (raw_lst hf)) (raw_lst hf)) ?_
  obtain ⟨a, b, w, rfl, _⟩ := raw2_inv hp
  obtain ⟨c, d, v, rfl, _⟩ := raw2_inv hq
  obtain ⟨e, g, u, rfl, _⟩ := raw2_inv hr
  obtain ⟨k, l, m, rfl, _⟩ := raw2_inv hf
  simp only [addP, hdt, lst, List.getLastD_cons, List.getLastD_nil]
  grind
theorem sd_add3 {f : List Int} (hp : Raw 3 p) (hq : Raw 3 q) (hr : Raw 3 r) (hs : Raw 3 s) (hf : Raw 3 f) : sdS [addS p f, addS q f, addS r f, addS s f] = sdS [p, q, r, s] := by
  unfold addS
  rw [sd_lows3 (raw_add hp hf) (raw_add hq hf) (raw_add hr hf) (raw_add hs hf)]
  refine sd_of (c := lst f * lst f * (lst f * lst f)) (Int.mul_pos (Int.mul_pos (raw_lst hf) (raw_lst hf)) (Int.mul_pos (raw_lst hf) (raw_lst hf))) ?_
  obtain ⟨x0, y0, z0, w0, rfl, _⟩ := raw3_inv hp
  obtain ⟨x1, y1, z1, w1, rfl, _⟩ := raw3_inv hq
  obtain ⟨x2, y2, z2, w2, rfl, _⟩ := raw3_inv hr
  obtain ⟨x3, y3, z3, w3, rfl, _⟩ := raw3_inv hs
  obtain ⟨k, l, m, n, rfl, _⟩ := raw3_inv hf
  simp only [addP, hdt, lst, List.getLastD_cons, List.getLastD_nil]
  grind
/-- all halfway to one point -/
theorem sd_dbl2 (hp : Raw 2 p) (hq : Raw 2 q) (hr : Raw 2 r) : sdS [dblP p, dblP q, dblP r] = sdS [p, q, r] := by
  refine sd_of (c := 2) (by decide) ?_
  obtain ⟨a, b, w, rfl, _⟩ := raw2_inv hp
  obtain ⟨c, d, v, rfl, _⟩ := raw2_inv hq
  obtain ⟨e, g, u, rfl, _⟩ := raw2_inv hr
  simp only [dblP, hdt]
  grind
theorem sd_dbl3 (hp : Raw 3 p) (hq : Raw 3 q) (hr : Raw 3 r) (hs : Raw 3 s) : sdS [dblP p, dblP q, dblP r, dblP s] = sdS [p, q, r, s] := by
  refine sd_of (c := 2) (by decide) ?_
  obtain ⟨x0, y0, z0, w0, rfl, _⟩ := raw3_inv hp
  obtain ⟨x1, y1, z1, w1, rfl, _⟩ := raw3_inv hq
  obtain ⟨x2, y2, z2, w2, rfl, _⟩ := raw3_inv hr
  obtain ⟨x3, y3, z3, w3, rfl, _⟩ := raw3_inv hs
  simp only [dblP, hdt]
  grind
theorem sd_amd2 {f : List Int} (hp : Raw 2 p) (hq : Raw 2 q) (hr : Raw 2 r) (hf : Raw 2 f) : sdS [amdS p f, amdS q f, amdS r f] = sdS [p, q, r] := by
  unfold amdS
  rw [sd_lows2 (raw_dbl (raw_addS hp hf)) (raw_dbl (raw_addS hq hf)) (raw_dbl (raw_addS hr hf)), sd_dbl2 (raw_addS hp hf) (raw_addS hq hf) (raw_addS hr hf), sd_add2 hp hq hr hf]
theorem sd_amd3 {f : List Int} (hp : Raw 3 p) (hq : Raw 3 q) (hr : Raw 3 r) (hs : Raw 3 s) (hf : Raw 3 f) : sdS [amdS p f, amdS q f, amdS r f, amdS s f] = sdS [p, q, r, s] := by
  unfold amdS
  rw [sd_lows3 (raw_dbl (raw_addS hp hf)) (raw_dbl (raw_addS hq hf)) (raw_dbl (raw_addS hr hf)) (raw_dbl (raw_addS hs hf)), sd_dbl3 (raw_addS hp hf) (raw_addS hq hf) (raw_addS hr hf) (raw_addS hs hf), sd_add3 hp hq hr hs hf]
/-- all turned -/
theorem sd_ng2 (hp : Raw 2 p) (hq : Raw 2 q) (hr : Raw 2 r) : sdS [ngP p, ngP q, ngP r] = sdS [p, q, r] := by
  refine sd_of (c := 1) (by decide) ?_
  obtain ⟨a, b, w, rfl, _⟩ := raw2_inv hp
  obtain ⟨c, d, v, rfl, _⟩ := raw2_inv hq
  obtain ⟨e, g, u, rfl, _⟩ := raw2_inv hr
  simp only [ngP, hdt]
  grind
theorem sd_ng3 (hp : Raw 3 p) (hq : Raw 3 q) (hr : Raw 3 r) (hs : Raw 3 s) : sdS [ngP p, ngP q, ngP r, ngP s] = -sdS [p, q, r, s] := by
  have h : hdt [ngP p, ngP q, ngP r, ngP s] = -hdt [p, q, r, s] := by
    obtain ⟨x0, y0, z0, w0, rfl, _⟩ := raw3_inv hp
    obtain ⟨x1, y1, z1, w1, rfl, _⟩ := raw3_inv hq
    obtain ⟨x2, y2, z2, w2, rfl, _⟩ := raw3_inv hr
    obtain ⟨x3, y3, z3, w3, rfl, _⟩ := raw3_inv hs
    simp only [ngP, hdt]
    grind
  unfold sdS
  rw [h, rk_neg]
end
/-! as the program reckons it -/
def arwP : List Int → List Int → List Int
  | [a, b, w], [c, d, v] => [c * w - a * v, d * w - b * v]
  | [a, b, e, w], [c, d, f, v] => [c * w - a * v, d * w - b * v, f * w - e * v]
  | _, _ => []
def crs : List Int → List Int → List Int
  | [a, b, c], [d, e, f] => [b * f - c * e, c * d - a * f, a * e - b * d]
  | _, _ => []
def dt3 (u v : List Int) : Int := match u, v with
  | [a, b, c], [d, e, f] => a * d + (b * e + (c * f + 0))
  | [a, b, c, g], [d, e, f, h] => a * d + (b * e + (c * f + (g * h + 0)))
  | _, _ => 0
def dtm : List (List Int) → Int
  | [[a, b], [c, d]] => a * d - b * c
  | [u, v, t] => dt3 u (crs v t)
  | _ => 0
theorem arwP_bd {d k l : Nat} {p q : List Int} (h : Raw d p) (h' : Raw d q) (hp : BdL k p) (hq : BdL l q) : BdL (k + l + 1) (arwP p q) := by
  have m : ∀ {x y z u : Int}, x ∈ q → y ∈ p → z ∈ p → u ∈ q → Bd (k + l + 1) (x * y - z * u) := fun hx hy hz hu => by
    have h1 := (hq _ hx).mul (hp _ hy)
    have h2 := (hp _ hz).mul (hq _ hu)
    exact (h1.sub h2).le (by omega)
  rcases h with ⟨rfl, a, b, w, rfl, hw⟩ | ⟨rfl, a, b, c, w, rfl, hw⟩ <;> rcases h' with ⟨h, a', b', w', rfl, hw'⟩ | ⟨h, a', b', c', w', rfl, hw'⟩ <;> cases h
  · exact bdl_cons (m (by simp) (by simp) (by simp) (by simp)) (bdl_cons (m (by simp) (by simp) (by simp) (by simp)) bdl_nil)
  · exact bdl_cons (m (by simp) (by simp) (by simp) (by simp)) (bdl_cons (m (by simp) (by simp) (by simp) (by simp)) (bdl_cons (m (by simp) (by simp) (by simp) (by simp)) bdl_nil))
theorem crs_bd {k l : Nat} {a b c e f g : Int} (hp : BdL k [a, b, c]) (hq : BdL l [e, f, g]) : BdL (k + l + 1) (crs [a, b, c] [e, f, g]) := by
  have m : ∀ {x y z u : Int}, x ∈ [a, b, c] → y ∈ [e, f, g] → z ∈ [a, b, c] → u ∈ [e, f, g] → Bd (k + l + 1) (x * y - z * u) := fun hx hy hz hu => by
    have h1 := (hp _ hx).mul (hq _ hy)
    have h2 := (hp _ hz).mul (hq _ hu)
    exact (h1.sub h2).le (by omega)
  exact bdl_cons (m (by simp) (by simp) (by simp) (by simp)) (bdl_cons (m (by simp) (by simp) (by simp) (by simp)) (bdl_cons (m (by simp) (by simp) (by simp) (by simp)) bdl_nil))
theorem dtm_2 {p q r : List Int} (hp : Raw 2 p) (hq : Raw 2 q) (hr : Raw 2 r) : dtm [arwP p q, arwP p r] = lst p * hdt [p, q, r] := by
  obtain ⟨a, b, w, rfl, _⟩ := raw2_inv hp
  obtain ⟨c, d, v, rfl, _⟩ := raw2_inv hq
  obtain ⟨e, g, u, rfl, _⟩ := raw2_inv hr
  simp only [arwP, dtm, hdt, lst, List.getLastD_cons, List.getLastD_nil]
  grind
theorem dtm_3 {p q r s : List Int} (hp : Raw 3 p) (hq : Raw 3 q) (hr : Raw 3 r) (hs : Raw 3 s) : dtm [arwP p q, arwP p r, arwP p s] = lst p * lst p * hdt [p, q, r, s] := by
  obtain ⟨x0, y0, z0, w0, rfl, _⟩ := raw3_inv hp
  obtain ⟨x1, y1, z1, w1, rfl, _⟩ := raw3_inv hq
  obtain ⟨x2, y2, z2, w2, rfl, _⟩ := raw3_inv hr
  obtain ⟨x3, y3, z3, w3, rfl, _⟩ := raw3_inv hs
  simp only [arwP, dtm, crs, dt3, hdt, lst, List.getLastD_cons, List.getLastD_nil]
  grind
theorem rk_dtm2 {p q r : List Int} (hp : Raw 2 p) (hq : Raw 2 q) (hr : Raw 2 r) : rk (dtm [arwP p q, arwP p r]) = sdS [p, q, r] := by
  rw [dtm_2 hp hq hr, rk_pos (raw_lst hp)]; rfl
theorem rk_dtm3 {p q r s : List Int} (hp : Raw 3 p) (hq : Raw 3 q) (hr : Raw 3 r) (hs : Raw 3 s) : rk (dtm [arwP p q, arwP p r, arwP p s]) = sdS [p, q, r, s] := by
  rw [dtm_3 hp hq hr hs, rk_pos (Int.mul_pos (raw_lst hp) (raw_lst hp))]; rfl
theorem amdS_eq {d : Nat} {p q : List Int} (h : Raw d p) (h' : Raw d q) : amdS p q = lowL (dblP (addP p q)) := dbl_low (raw_add h h')
theorem sd_half2_01 {p q r : List Int} (hp : Raw 2 p) (hq : Raw 2 q) (hr : Raw 2 r) : sdS [amdS p q, q, r] = sdS [p, q, r] := by
  rw [amdS_eq hp hq, (sd_low2 (raw_dbl (raw_add hp hq)) hq hr).1]
  refine sd_of (c := lst q) (raw_lst hq) ?_
  obtain ⟨a, b, w, rfl, _⟩ := raw2_inv hp
  obtain ⟨c, d, v, rfl, _⟩ := raw2_inv hq
  obtain ⟨e, g, u, rfl, _⟩ := raw2_inv hr
  simp only [addP, dblP, hdt, lst, List.getLastD_cons, List.getLastD_nil]
  grind
theorem sd_half2_02 {p q r : List Int} (hp : Raw 2 p) (hq : Raw 2 q) (hr : Raw 2 r) : sdS [amdS p r, q, r] = sdS [p, q, r] := by
  rw [amdS_eq hp hr, (sd_low2 (raw_dbl (raw_add hp hr)) hq hr).1]
  refine sd_of (c := lst r) (raw_lst hr) ?_
  obtain ⟨a, b, w, rfl, _⟩ := raw2_inv hp
  obtain ⟨c, d, v, rfl, _⟩ := raw2_inv hq
  obtain ⟨e, g, u, rfl, _⟩ := raw2_inv hr
  simp only [addP, dblP, hdt, lst, List.getLastD_cons, List.getLastD_nil]
  grind
theorem sd_half2_10 {p q r : List Int} (hp : Raw 2 p) (hq : Raw 2 q) (hr : Raw 2 r) : sdS [p, amdS q p, r] = sdS [p, q, r] := by
  rw [amdS_eq hq hp, (sd_low2 hp (raw_dbl (raw_add hq hp)) hr).2.1]
  refine sd_of (c := lst p) (raw_lst hp) ?_
  obtain ⟨a, b, w, rfl, _⟩ := raw2_inv hp
  obtain ⟨c, d, v, rfl, _⟩ := raw2_inv hq
  obtain ⟨e, g, u, rfl, _⟩ := raw2_inv hr
  simp only [addP, dblP, hdt, lst, List.getLastD_cons, List.getLastD_nil]
  grind
theorem sd_half2_12 {p q r : List Int} (hp : Raw 2 p) (hq : Raw 2 q) (hr : Raw 2 r) : sdS [p, amdS q r, r] = sdS [p, q, r] := by
  rw [amdS_eq hq hr, (sd_low2 hp (raw_dbl (raw_add hq hr)) hr).2.1]
  refine sd_of (c := lst r) (raw_lst hr) ?_
  obtain ⟨a, b, w, rfl, _⟩ := raw2_inv hp
  obtain ⟨c, d, v, rfl, _⟩ := raw2_inv hq
  obtain ⟨e, g, u, rfl, _⟩ := raw2_inv hr
  simp only [addP, dblP, hdt, lst, List.getLastD_cons, List.getLastD_nil]
  grind
theorem sd_half2_20 {p q r : List Int} (hp : Raw 2 p) (hq : Raw 2 q) (hr : Raw 2 r) : sdS [p, q, amdS r p] = sdS [p, q, r] := by
  rw [amdS_eq hr hp, (sd_low2 hp hq (raw_dbl (raw_add hr hp))).2.2]
  refine sd_of (c := lst p) (raw_lst hp) ?_
  obtain ⟨a, b, w, rfl, _⟩ := raw2_inv hp
  obtain ⟨c, d, v, rfl, _⟩ := raw2_inv hq
  obtain ⟨e, g, u, rfl, _⟩ := raw2_inv hr
  simp only [addP, dblP, hdt, lst, List.getLastD_cons, List.getLastD_nil]
  grind
theorem sd_half2_21 {p q r : List Int} (hp : Raw 2 p) (hq : Raw 2 q) (hr : Raw 2 r) : sdS [p, q, amdS r q] = sdS [p, q, r] := by
  rw [amdS_eq hr hq, (sd_low2 hp hq (raw_dbl (raw_add hr hq))).2.2]
  refine sd_of (c := lst q) (raw_lst hq) ?_
  obtain ⟨a, b, w, rfl, _⟩ := raw2_inv hp
  obtain ⟨c, d, v, rfl, _⟩ := raw2_inv hq
  obtain ⟨e, g, u, rfl, _⟩ := raw2_inv hr
  simp only [addP, dblP, hdt, lst, List.getLastD_cons, List.getLastD_nil]
  grind
theorem sd_half3_01 {p q r s : List Int} (hp : Raw 3 p) (hq : Raw 3 q) (hr : Raw 3 r) (hs : Raw 3 s) : sdS [amdS p q, q, r, s] = sdS [p, q, r, s] := by
  rw [amdS_eq hp hq, (sd_low3 (raw_dbl (raw_add hp hq)) hq hr hs).1]
  refine sd_of (c := lst q) (raw_lst hq) ?_
  obtain ⟨x0, y0, z0, w0, rfl, _⟩ := raw3_inv hp
  obtain ⟨x1, y1, z1, w1, rfl, _⟩ := raw3_inv hq
  obtain ⟨x2, y2, z2, w2, rfl, _⟩ := raw3_inv hr
  obtain ⟨x3, y3, z3, w3, rfl, _⟩ := raw3_inv hs
  simp only [addP, dblP, hdt, lst, List.getLastD_cons, List.getLastD_nil]
  grind
theorem sd_half3_02 {p q r s : List Int} (hp : Raw 3 p) (hq : Raw 3 q) (hr : Raw 3 r) (hs : Raw 3 s) : sdS [amdS p r, q, r, s] = sdS [p, q, r, s] := by
  rw [amdS_eq hp hr, (sd_low3 (raw_dbl (raw_add hp hr)) hq hr hs).1]
  refine sd_of (c := lst r) (raw_lst hr) ?_
  obtain ⟨x0, y0, z0, w0, rfl, _⟩ := raw3_inv hp
  obtain ⟨x1, y1, z1, w1, rfl, _⟩ := raw3_inv hq
  obtain ⟨x2, y2, z2, w2, rfl, _⟩ := raw3_inv hr
  obtain ⟨x3, y3, z3, w3, rfl, _⟩ := raw3_inv hs
  simp only [addP, dblP, hdt, lst, List.getLastD_cons, List.getLastD_nil]
  grind
theorem sd_half3_03 {p q r s : List Int} (hp : Raw 3 p) (hq : Raw 3 q) (hr : Raw 3 r) (hs : Raw 3 s) : sdS [amdS p s, q, r, s] = sdS [p, q, r, s] := by
  rw [amdS_eq hp hs, (sd_low3 (raw_dbl (raw_add hp hs)) hq hr hs).1]
  refine sd_of (c := lst s) (raw_lst hs) ?_
  obtain ⟨x0, y0, z0, w0, rfl, _⟩ := raw3_inv hp
  obtain ⟨x1, y1, z1, w1, rfl, _⟩ := raw3_inv hq
  obtain ⟨x2, y2, z2, w2, rfl, _⟩ := raw3_inv hr
  obtain ⟨x3, y3, z3, w3, rfl, _⟩ := raw3_inv hs
  simp only [addP, dblP, hdt, lst, List.getLastD_cons, List.getLastD_nil]
  grind
theorem sd_half3_10 {p q r s : List Int} (hp : Raw 3 p) (hq : Raw 3 q) (hr : Raw 3 r) (hs : Raw 3 s) : sdS [p, amdS q p, r, s] = sdS [p, q, r, s] := by
  rw [amdS_eq hq hp, (sd_low3 hp (raw_dbl (raw_add hq hp)) hr hs).2.1]
  refine sd_of (c := lst p) (raw_lst hp) ?_
  obtain ⟨x0, y0, z0, w0, rfl, _⟩ := raw3_inv hp
  obtain ⟨x1, y1, z1, w1, rfl, _⟩ := raw3_inv hq
  obtain ⟨x2, y2, z2, w2, rfl, _⟩ := raw3_inv hr
  obtain ⟨x3, y3, z3, w3, rfl, _⟩ := raw3_inv hs
  simp only [addP, dblP, hdt, lst, List.getLastD_cons, List.getLastD_nil]
  grind
theorem sd_half3_12 {p q r s : List Int} (hp : Raw 3 p) (hq : Raw 3 q) (hr : Raw 3 r) (hs : Raw 3 s) : sdS [p, amdS q r, r, s] = sdS [p, q, r, s] := by
  rw [amdS_eq hq hr, (sd_low3 hp (raw_dbl (raw_add hq hr)) hr hs).2.1]
  refine sd_of (c := lst r) (raw_lst hr) ?_
  obtain ⟨x0, y0, z0, w0, rfl, _⟩ := raw3_inv hp
  obtain ⟨x1, y1, z1, w1, rfl, _⟩ := raw3_inv hq
  obtain ⟨x2, y2, z2, w2, rfl, _⟩ := raw3_inv hr
  obtain ⟨x3, y3, z3, w3, rfl, _⟩ := raw3_inv hs
  simp only [addP, dblP, hdt, lst, List.getLastD_cons, List.getLastD_nil]
  grind
theorem sd_half3_13 {p q r s : List Int} (hp : Raw 3 p) (hq : Raw 3 q) (hr : Raw 3 r) (hs : Raw 3 s) : sdS [p, amdS q s, r, s] = sdS [p, q, r, s] := by
  rw [amdS_eq hq hs, (sd_low3 hp (raw_dbl (raw_add hq hs)) hr hs).2.1]
  refine sd_of (c := lst s) (raw_lst hs) ?_
  obtain ⟨x0, y0, z0, w0, rfl, _⟩ := raw3_inv hp
  obtain ⟨x1, y1, z1, w1, rfl, _⟩ := raw3_inv hq
  obtain ⟨x2, y2, z2, w2, rfl, _⟩ := raw3_inv hr
  obtain ⟨x3, y3, z3, w3, rfl, _⟩ := raw3_inv hs
  simp only [addP, dblP, hdt, lst, List.getLastD_cons, List.getLastD_nil]
  grind
theorem sd_half3_20 {p q r s : List Int} (hp : Raw 3 p) (hq : Raw 3 q) (hr : Raw 3 r) (hs : Raw 3 s) : sdS [p, q, amdS r p, s] = sdS [p, q, r, s] := by
  rw [amdS_eq hr hp, (sd_low3 hp hq (raw_dbl (raw_add hr hp)) hs).2.2.1]
  refine sd_of (c := lst p) (raw_lst hp) ?_
  obtain ⟨x0, y0, z0, w0, rfl, _⟩ := raw3_inv hp
  obtain ⟨x1, y1, z1, w1, rfl, _⟩ := raw3_inv hq
  obtain ⟨x2, y2, z2, w2, rfl, _⟩ := raw3_inv hr
  obtain ⟨x3, y3, z3, w3, rfl, _⟩ := raw3_inv hs
  simp only [addP, dblP, hdt, lst, List.getLastD_cons, List.getLastD_nil]
  grind
theorem sd_half3_21 {p q r s : List Int} (hp : Raw 3 p) (hq : Raw 3 q) (hr : Raw 3 r) (hs : Raw 3 s) : sdS [p, q, amdS r q, s] = sdS [p, q, r, s] := by
  rw [amdS_eq hr hq, (sd_low3 hp hq (raw_dbl (raw_add hr hq)) hs).2.2.1]
  refine sd_of (c := lst q) (raw_lst hq) ?_
  obtain ⟨x0, y0, z0, w0, rfl, _⟩ := raw3_inv hp
  obtain ⟨x1, y1, z1, w1, rfl, _⟩ := raw3_inv hq
  obtain ⟨x2, y2, z2, w2, rfl, _⟩ := raw3_inv hr
  obtain ⟨x3, y3, z3, w3, rfl, _⟩ := raw3_inv hs
  simp only [addP, dblP, hdt, lst, List.getLastD_cons, List.getLastD_nil]
  grind
theorem sd_half3_23 {p q r s : List Int} (hp : Raw 3 p) (hq : Raw 3 q) (hr : Raw 3 r) (hs : Raw 3 s) : sdS [p, q, amdS r s, s] = sdS [p, q, r, s] := by
  rw [amdS_eq hr hs, (sd_low3 hp hq (raw_dbl (raw_add hr hs)) hs).2.2.1]
  refine sd_of (c := lst s) (raw_lst hs) ?_
  obtain ⟨x0, y0, z0, w0, rfl, _⟩ := raw3_inv hp
  obtain ⟨x1, y1, z1, w1, rfl, _⟩ := raw3_inv hq
  obtain ⟨x2, y2, z2, w2, rfl, _⟩ := raw3_inv hr
  obtain ⟨x3, y3, z3, w3, rfl, _⟩ := raw3_inv hs
  simp only [addP, dblP, hdt, lst, List.getLastD_cons, List.getLastD_nil]
  grind
theorem sd_half3_30 {p q r s : List Int} (hp : Raw 3 p) (hq : Raw 3 q) (hr : Raw 3 r) (hs : Raw 3 s) : sdS [p, q, r, amdS s p] = sdS [p, q, r, s] := by
  rw [amdS_eq hs hp, (sd_low3 hp hq hr (raw_dbl (raw_add hs hp))).2.2.2]
  refine sd_of (c := lst p) (raw_lst hp) ?_
  obtain ⟨x0, y0, z0, w0, rfl, _⟩ := raw3_inv hp
  obtain ⟨x1, y1, z1, w1, rfl, _⟩ := raw3_inv hq
  obtain ⟨x2, y2, z2, w2, rfl, _⟩ := raw3_inv hr
  obtain ⟨x3, y3, z3, w3, rfl, _⟩ := raw3_inv hs
  simp only [addP, dblP, hdt, lst, List.getLastD_cons, List.getLastD_nil]
  grind
theorem sd_half3_31 {p q r s : List Int} (hp : Raw 3 p) (hq : Raw 3 q) (hr : Raw 3 r) (hs : Raw 3 s) : sdS [p, q, r, amdS s q] = sdS [p, q, r, s] := by
  rw [amdS_eq hs hq, (sd_low3 hp hq hr (raw_dbl (raw_add hs hq))).2.2.2]
  refine sd_of (c := lst q) (raw_lst hq) ?_
  obtain ⟨x0, y0, z0, w0, rfl, _⟩ := raw3_inv hp
  obtain ⟨x1, y1, z1, w1, rfl, _⟩ := raw3_inv hq
  obtain ⟨x2, y2, z2, w2, rfl, _⟩ := raw3_inv hr
  obtain ⟨x3, y3, z3, w3, rfl, _⟩ := raw3_inv hs
  simp only [addP, dblP, hdt, lst, List.getLastD_cons, List.getLastD_nil]
  grind
theorem sd_half3_32 {p q r s : List Int} (hp : Raw 3 p) (hq : Raw 3 q) (hr : Raw 3 r) (hs : Raw 3 s) : sdS [p, q, r, amdS s r] = sdS [p, q, r, s] := by
  rw [amdS_eq hs hr, (sd_low3 hp hq hr (raw_dbl (raw_add hs hr))).2.2.2]
  refine sd_of (c := lst r) (raw_lst hr) ?_
  obtain ⟨x0, y0, z0, w0, rfl, _⟩ := raw3_inv hp
  obtain ⟨x1, y1, z1, w1, rfl, _⟩ := raw3_inv hq
  obtain ⟨x2, y2, z2, w2, rfl, _⟩ := raw3_inv hr
  obtain ⟨x3, y3, z3, w3, rfl, _⟩ := raw3_inv hs
  simp only [addP, dblP, hdt, lst, List.getLastD_cons, List.getLastD_nil]
  grind
theorem rk_or (z : Int) : rk z = -1 ∨ rk z = 0 ∨ rk z = 1 := by
  unfold rk
  split <;> split <;> omega
theorem notin_rk (ps : List (List Int)) : cmpD .notin (.int (sdS ps)) (T [-1, 0, 1]) = some false := by
  unfold sdS
  rcases rk_or (hdt ps) with e | e | e <;> rw [e] <;> rfl
end Mi

/-! MiT: simplexes in their one form, in plain mathematics. -/
namespace Mi
open PySem
structure Pts (d k : Nat) (ps : List (List Int)) : Prop where
  len : ps.length = d + 1
  all : ∀ p ∈ ps, Pt d k p
  dim : d = 2 ∨ d = 3
theorem Pts.le {d k l : Nat} {ps : List (List Int)} (h : Pts d k ps) (hl : k ≤ l) : Pts d l ps := ⟨h.len, fun p hp => (h.all p hp).le hl, h.dim⟩
theorem Pts.perm {d k : Nat} {ps qs : List (List Int)} (h : Pts d k ps) (e : qs.Perm ps) : Pts d k qs := ⟨e.length_eq.trans h.len, fun p hp => h.all p (e.mem_iff.mp hp), h.dim⟩
theorem Pts.c2 {k : Nat} {ps : List (List Int)} (h : Pts 2 k ps) : ∃ p q r, ps = [p, q, r] ∧ Pt 2 k p ∧ Pt 2 k q ∧ Pt 2 k r := by
  obtain ⟨l, a, _⟩ := h
  match ps, l with
  | [p, q, r], _ => exact ⟨p, q, r, rfl, a p (by simp), a q (by simp), a r (by simp)⟩
theorem Pts.c3 {k : Nat} {ps : List (List Int)} (h : Pts 3 k ps) : ∃ p q r s, ps = [p, q, r, s] ∧ Pt 3 k p ∧ Pt 3 k q ∧ Pt 3 k r ∧ Pt 3 k s := by
  obtain ⟨l, a, _⟩ := h
  match ps, l with
  | [p, q, r, s], _ => exact ⟨p, q, r, s, rfl, a p (by simp), a q (by simp), a r (by simp), a s (by simp)⟩
theorem pts2 {k : Nat} {p q r : List Int} (hp : Pt 2 k p) (hq : Pt 2 k q) (hr : Pt 2 k r) : Pts 2 k [p, q, r] := ⟨rfl, fun x hx => by
  simp only [List.mem_cons, List.not_mem_nil, or_false] at hx
  rcases hx with rfl | rfl | rfl <;> assumption, .inl rfl⟩
theorem pts3 {k : Nat} {p q r s : List Int} (hp : Pt 3 k p) (hq : Pt 3 k q) (hr : Pt 3 k r) (hs : Pt 3 k s) : Pts 3 k [p, q, r, s] := ⟨rfl, fun x hx => by
  simp only [List.mem_cons, List.not_mem_nil, or_false] at hx
  rcases hx with rfl | rfl | rfl | rfl <;> assumption, .inr rfl⟩
theorem Pt.ne {d k : Nat} {p : List Int} (h : Pt d k p) : p ≠ [] := by
  intro e
  have := h.length
  rw [e] at this
  simp at this
theorem Pts.ne {d k : Nat} {ps : List (List Int)} (h : Pts d k ps) : ∀ p ∈ ps, p ≠ [] := fun p hp => (h.all p hp).ne
/-! ### two exchanged -/
theorem hdt_sw2 {p q r : List Int} (hp : Raw 2 p) (hq : Raw 2 q) (hr : Raw 2 r) : hdt [q, p, r] = -hdt [p, q, r] ∧ hdt [p, r, q] = -hdt [p, q, r] := by
  obtain ⟨a, b, w, rfl, _⟩ := raw2_inv hp
  obtain ⟨c, d, v, rfl, _⟩ := raw2_inv hq
  obtain ⟨e, g, u, rfl, _⟩ := raw2_inv hr
  simp only [hdt]
  constructor <;> grind
theorem hdt_sw3 {p q r s : List Int} (hp : Raw 3 p) (hq : Raw 3 q) (hr : Raw 3 r) (hs : Raw 3 s) : hdt [q, p, r, s] = -hdt [p, q, r, s] ∧ hdt [p, r, q, s] = -hdt [p, q, r, s] ∧ hdt [p, q, s, r] = -hdt [p, q, r, s] := by
  obtain ⟨x0, y0, z0, w0, rfl, _⟩ := raw3_inv hp
  obtain ⟨x1, y1, z1, w1, rfl, _⟩ := raw3_inv hq
  obtain ⟨x2, y2, z2, w2, rfl, _⟩ := raw3_inv hr
  obtain ⟨x3, y3, z3, w3, rfl, _⟩ := raw3_inv hs
  simp only [hdt]
  refine ⟨?_, ?_, ?_⟩ <;> grind
theorem hdt_perm_pre {d : Nat} {l m : List (List Int)} (e : l.Perm m) : ∀ A : List (List Int), (∀ x ∈ A ++ l, Raw d x) → (A ++ l).length = d + 1 → (hdt (A ++ l)).natAbs = (hdt (A ++ m)).natAbs := by
  induction e with
  | nil => intro A _ _; rfl
  | cons x e ih =>
    intro A h1 h2
    have := ih (A ++ [x]) (by simpa using h1) (by simpa using h2)
    simpa using this
  | swap x y l =>
    intro A h1 h2
    have hd : d = 2 ∨ d = 3 := raw_d (h1 x (by simp))
    have hx := h1 x (by simp)
    have hy := h1 y (by simp)
    rcases hd with rfl | rfl
    · match A, l, h2 with
      | [], [r], _ =>
        have := (hdt_sw2 hx hy (h1 r (by simp))).1
        simp only [List.nil_append]
        omega
      | [a], [], _ =>
        have := (hdt_sw2 (h1 a (by simp)) hx hy).2
        simp only [List.cons_append, List.nil_append]
        omega
      | [], [], h2 => simp at h2
      | [], _ :: _ :: _, h2 => simp at h2
      | [_], _ :: _, h2 => simp at h2
      | _ :: _ :: _, _, h2 => simp at h2; omega
    · match A, l, h2 with
      | [], [r, s], _ =>
        have := (hdt_sw3 hx hy (h1 r (by simp)) (h1 s (by simp))).1
        simp only [List.nil_append]
        omega
      | [a], [s], _ =>
        have := (hdt_sw3 (h1 a (by simp)) hx hy (h1 s (by simp))).2.1
        simp only [List.cons_append, List.nil_append]
        omega
      | [a, b], [], _ =>
        have := (hdt_sw3 (h1 a (by simp)) (h1 b (by simp)) hx hy).2.2
        simp only [List.cons_append, List.nil_append]
        omega
      | [], [], h2 => simp at h2
      | [], [_], h2 => simp at h2
      | [], _ :: _ :: _ :: _, h2 => simp at h2
      | [_], [], h2 => simp at h2
      | [_], _ :: _ :: _, h2 => simp at h2
      | [_, _], _ :: _, h2 => simp at h2
      | _ :: _ :: _ :: _, _, h2 => simp at h2; omega
  | trans e1 e2 ih1 ih2 =>
    intro A h1 h2
    rw [ih1 A h1 h2]
    refine ih2 A (fun x hx => ?_) ?_
    · rcases List.mem_append.mp hx with q | q
      · exact h1 x (List.mem_append_left _ q)
      · exact h1 x (List.mem_append_right _ (e1.mem_iff.mpr q))
    · rw [List.length_append, ← e1.length_eq, ← List.length_append]; exact h2
theorem hdt_perm {d k : Nat} {l m : List (List Int)} (h : Pts d k l) (e : l.Perm m) : (hdt l).natAbs = (hdt m).natAbs := hdt_perm_pre e [] (fun x hx => (h.all x hx).raw) h.len
/-! ### the one form -/
def swp : List (List Int) → List (List Int)
  | [p, q, r] => [p, r, q]
  | [p, q, r, s] => [p, q, s, r]
  | l => l
def smpS (ps : List (List Int)) : List (List Int) := if hdt (sortL ps) < 0 then swp (sortL ps) else sortL ps
theorem swp_perm : ∀ l : List (List Int), (swp l).Perm l
  | [p, q, r] => (List.Perm.swap q r []).cons p
  | [p, q, r, s] => ((List.Perm.swap r s []).cons q).cons p
  | [] => List.Perm.refl _
  | [_] => List.Perm.refl _
  | [_, _] => List.Perm.refl _
  | _ :: _ :: _ :: _ :: _ :: _ => List.Perm.refl _
theorem smpS_perm (ps : List (List Int)) : (smpS ps).Perm ps := by
  unfold smpS
  split
  · exact (swp_perm _).trans (sortL_perm ps)
  · exact sortL_perm ps
theorem Pts.sort {d k : Nat} {ps : List (List Int)} (h : Pts d k ps) : Pts d k (sortL ps) := h.perm (sortL_perm ps)
theorem Pts.smp {d k : Nat} {ps : List (List Int)} (h : Pts d k ps) : Pts d k (smpS ps) := h.perm (smpS_perm ps)
theorem hdt_swp {d k : Nat} {ps : List (List Int)} (h : Pts d k ps) : hdt (swp ps) = -hdt ps := by
  rcases h.dim with rfl | rfl
  · obtain ⟨p, q, r, rfl, hp, hq, hr⟩ := h.c2
    exact (hdt_sw2 hp.raw hq.raw hr.raw).2
  · obtain ⟨p, q, r, s, rfl, hp, hq, hr, hs⟩ := h.c3
    exact (hdt_sw3 hp.raw hq.raw hr.raw hs.raw).2.2
theorem hdt_smp {d k : Nat} {ps : List (List Int)} (h : Pts d k ps) : hdt (smpS ps) = (hdt ps).natAbs := by
  have e := hdt_perm h.sort (sortL_perm ps)
  unfold smpS
  split
  · rw [hdt_swp h.sort]; omega
  · omega
theorem sortL_of_perm {l m : List (List Int)} (e : l.Perm m) : sortL l = sortL m := srt_uniq (sortL_srtd l) ((sortL_perm l).trans e)
theorem smpS_of_perm {l m : List (List Int)} (e : l.Perm m) : smpS l = smpS m := by
  unfold smpS
  rw [sortL_of_perm e]
theorem smpS_smpS (ps : List (List Int)) : smpS (smpS ps) = smpS ps := smpS_of_perm (smpS_perm ps)
/-- a simplex in its one form -/
structure Smp (d k : Nat) (s : List (List Int)) : Prop where
  pts : Pts d k s
  pos : 0 < hdt s
  one : smpS s = s
theorem Smp.le {d k l : Nat} {s : List (List Int)} (h : Smp d k s) (hl : k ≤ l) : Smp d l s := ⟨h.pts.le hl, h.pos, h.one⟩
theorem Pts.made {d k : Nat} {ps : List (List Int)} (h : Pts d k ps) (h0 : hdt ps ≠ 0) : Smp d k (smpS ps) := ⟨h.smp, by rw [hdt_smp h]; omega, smpS_smpS ps⟩
theorem lst_pos {d k : Nat} {p : List Int} (h : Pt d k p) : 0 < lst p := raw_lst h.raw
/-! ### boxes -/
def tmP (k : Int) : List Int → List Int
  | [a, b, w] => [k * a, k * b, w]
  | [a, b, c, w] => [k * a, k * b, k * c, w]
  | l => l
theorem raw_tm {d : Nat} {p : List Int} (k : Int) (h : Raw d p) : Raw d (tmP k p) := by
  rcases h with ⟨rfl, a, b, w, rfl, hw⟩ | ⟨rfl, a, b, c, w, rfl, hw⟩
  · exact raw_2 hw
  · exact raw_3 hw
theorem tmP_bd {d k : Nat} {i : Int} {p : List Int} (h : Raw d p) (hp : BdL k p) (hi : Bd 2 i) : BdL (k + 2) (tmP i p) := by
  have m : ∀ {x : Int}, x ∈ p → Bd (k + 2) (i * x) := fun hx => (hi.mul (hp _ hx)).le (by omega)
  have m2 : ∀ {x : Int}, x ∈ p → Bd (k + 2) x := fun hx => (hp _ hx).le (by omega)
  rcases h with ⟨rfl, a, b, w, rfl, hw⟩ | ⟨rfl, a, b, c, w, rfl, hw⟩
  · exact bdl_cons (m (by simp)) (bdl_cons (m (by simp)) (bdl_cons (m2 (by simp)) bdl_nil))
  · exact bdl_cons (m (by simp)) (bdl_cons (m (by simp)) (bdl_cons (m (by simp)) (bdl_cons (m2 (by simp)) bdl_nil)))
/-- an arrow's own measures' tops -/
def tops (p : List Int) : List Int := p.dropLast
theorem box_2 {c a b : List Int} (hc : Raw 2 c) (ha : Raw 2 a) (hb : Raw 2 b) : sdS [c, addS c a, addS (addS c a) b] = rk (dtm [tops a, tops b]) := by
  unfold addS
  rw [low_addl (raw_add hc ha) hb, (sd_low2 hc (raw_add hc ha) (raw_low (raw_add (raw_add hc ha) hb))).2.1, (sd_low2 hc (raw_add hc ha) (raw_add (raw_add hc ha) hb)).2.2]
  unfold sdS
  have e : hdt [c, addP c a, addP (addP c a) b] = (lst c * lst c * lst c * lst a) * dtm [tops a, tops b] := by
    obtain ⟨x0, y0, w0, rfl, _⟩ := raw2_inv hc
    obtain ⟨x1, y1, w1, rfl, _⟩ := raw2_inv ha
    obtain ⟨x2, y2, w2, rfl, _⟩ := raw2_inv hb
    simp only [addP, hdt, dtm, tops, lst, List.getLastD_cons, List.getLastD_nil, List.dropLast_cons₂, List.dropLast_singleton]
    grind
  have pc := raw_lst hc
  have pa := raw_lst ha
  rw [e, rk_pos (Int.mul_pos (Int.mul_pos (Int.mul_pos pc pc) pc) pa)]
theorem box_3 {c a b e : List Int} (hc : Raw 3 c) (ha : Raw 3 a) (hb : Raw 3 b) (he : Raw 3 e) : sdS [c, addS c a, addS (addS c a) b, addS (addS (addS c a) b) e] = rk (dtm [tops a, tops b, tops e]) := by
  have r1 := raw_add hc ha
  have r2 := raw_add r1 hb
  have r3 := raw_add r2 he
  have e2 : addS (addS c a) b = lowL (addP (addP c a) b) := low_addl r1 hb
  have e3 : addS (addS (addS c a) b) e = lowL (addP (addP (addP c a) b) e) := by
    rw [e2]
    exact low_addl r2 he
  rw [e3, e2, show addS c a = lowL (addP c a) from rfl, (sd_low3 hc r1 (raw_low r2) (raw_low r3)).2.1, (sd_low3 hc r1 r2 (raw_low r3)).2.2.1, (sd_low3 hc r1 r2 r3).2.2.2]
  unfold sdS
  have q : hdt [c, addP c a, addP (addP c a) b, addP (addP (addP c a) b) e] = (lst c * lst c * lst c * lst c * lst a * lst a * lst b) * dtm [tops a, tops b, tops e] := by
    obtain ⟨x0, y0, z0, w0, rfl, _⟩ := raw3_inv hc
    obtain ⟨x1, y1, z1, w1, rfl, _⟩ := raw3_inv ha
    obtain ⟨x2, y2, z2, w2, rfl, _⟩ := raw3_inv hb
    obtain ⟨x3, y3, z3, w3, rfl, _⟩ := raw3_inv he
    simp only [addP, hdt, dtm, dt3, crs, tops, lst, List.getLastD_cons, List.getLastD_nil, List.dropLast_cons₂, List.dropLast_singleton]
    grind
  have pc := raw_lst hc
  have pa := raw_lst ha
  have pb := raw_lst hb
  rw [q, rk_pos (Int.mul_pos (Int.mul_pos (Int.mul_pos (Int.mul_pos (Int.mul_pos (Int.mul_pos pc pc) pc) pc) pa) pa) pb)]
theorem rk_zero (z : Int) : rk z = 0 ↔ z = 0 := by
  unfold rk
  split <;> split <;> omega
theorem hdt_zero {ps : List (List Int)} {z : Int} (h : sdS ps = rk z) : hdt ps = 0 ↔ z = 0 := by
  rw [← rk_zero z, ← h]
  exact (rk_zero _).symm
theorem dtm_sw2 {a b : List Int} (ha : Raw 2 a) (hb : Raw 2 b) : dtm [tops b, tops a] = -dtm [tops a, tops b] := by
  obtain ⟨x1, y1, w1, rfl, _⟩ := raw2_inv ha
  obtain ⟨x2, y2, w2, rfl, _⟩ := raw2_inv hb
  simp only [dtm, tops, List.dropLast_cons₂, List.dropLast_singleton]
  grind
theorem dtm_sw3 {a b e : List Int} (ha : Raw 3 a) (hb : Raw 3 b) (he : Raw 3 e) : dtm [tops b, tops a, tops e] = -dtm [tops a, tops b, tops e] ∧ dtm [tops a, tops e, tops b] = -dtm [tops a, tops b, tops e] := by
  obtain ⟨x1, y1, z1, w1, rfl, _⟩ := raw3_inv ha
  obtain ⟨x2, y2, z2, w2, rfl, _⟩ := raw3_inv hb
  obtain ⟨x3, y3, z3, w3, rfl, _⟩ := raw3_inv he
  simp only [dtm, dt3, crs, tops, List.dropLast_cons₂, List.dropLast_singleton]
  constructor <;> grind
end Mi

/-! MiU: the laws' heaps, in plain mathematics. -/
namespace Mi
open PySem
/-- a lattice's corners with a bottom of one -/
def up1 (cs : List (List Int)) : List (List Int) := cs.map fun c => c ++ [1]
structure RawC (d B : Nat) (cs : List (List Int)) : Prop where
  len : cs.length = d + 1
  dim : d = 2 ∨ d = 3
  all : ∀ c ∈ cs, c.length = d ∧ ∀ x ∈ c, 0 ≤ x ∧ x ≤ B
  det : hdt (up1 cs) ≠ 0
theorem RawC.c2 {B : Nat} {cs : List (List Int)} (h : RawC 2 B cs) : ∃ a b c e f g : Int, cs = [[a, b], [c, e], [f, g]] ∧ (∀ x ∈ [a, b, c, e, f, g], 0 ≤ x ∧ x ≤ B) := by
  obtain ⟨l, _, al, _⟩ := h
  match cs, l with
  | [p, q, r], _ =>
    obtain ⟨l1, b1⟩ := al p (by simp)
    obtain ⟨l2, b2⟩ := al q (by simp)
    obtain ⟨l3, b3⟩ := al r (by simp)
    match p, q, r, l1, l2, l3 with
    | [a, b], [c, e], [f, g], _, _, _ =>
      refine ⟨a, b, c, e, f, g, rfl, fun x hx => ?_⟩
      simp only [List.mem_cons, List.not_mem_nil, or_false] at hx
      rcases hx with rfl | rfl | rfl | rfl | rfl | rfl
      · exact b1 _ (by simp)
      · exact b1 _ (by simp)
      · exact b2 _ (by simp)
      · exact b2 _ (by simp)
      · exact b3 _ (by simp)
      · exact b3 _ (by simp)
theorem RawC.c3 {B : Nat} {cs : List (List Int)} (h : RawC 3 B cs) : ∃ a b c e f g i j k l m n : Int, cs = [[a, b, c], [e, f, g], [i, j, k], [l, m, n]] ∧ (∀ x ∈ [a, b, c, e, f, g, i, j, k, l, m, n], 0 ≤ x ∧ x ≤ B) := by
  obtain ⟨l, _, al, _⟩ := h
  match cs, l with
  | [p, q, r, s], _ =>
    obtain ⟨l1, b1⟩ := al p (by simp)
    obtain ⟨l2, b2⟩ := al q (by simp)
    obtain ⟨l3, b3⟩ := al r (by simp)
    obtain ⟨l4, b4⟩ := al s (by simp)
    match p, q, r, s, l1, l2, l3, l4 with
    | [a, b, c], [e, f, g], [i, j, k], [l, m, n], _, _, _, _ =>
      refine ⟨a, b, c, e, f, g, i, j, k, l, m, n, rfl, fun x hx => ?_⟩
      simp only [List.mem_cons, List.not_mem_nil, or_false] at hx
      rcases hx with rfl | rfl | rfl | rfl | rfl | rfl | rfl | rfl | rfl | rfl | rfl | rfl
      · exact b1 _ (by simp)
      · exact b1 _ (by simp)
      · exact b1 _ (by simp)
      · exact b2 _ (by simp)
      · exact b2 _ (by simp)
      · exact b2 _ (by simp)
      · exact b3 _ (by simp)
      · exact b3 _ (by simp)
      · exact b3 _ (by simp)
      · exact b4 _ (by simp)
      · exact b4 _ (by simp)
      · exact b4 _ (by simp)
theorem bd_small {B : Nat} {x : Int} (h : 0 ≤ x ∧ x ≤ B) (hB : B ≤ 100) : Bd 7 x := by
  unfold Bd
  exact Nat.lt_of_le_of_lt (show x.natAbs ≤ 100 by omega) (by decide)
/-- a fraction above nought -/
structure FrP (k : Nat) (f : List Int) : Prop where
  ex : ∃ t b, f = [t, b] ∧ 0 < t ∧ 0 < b ∧ Bd k t ∧ Bd k b
/-- a lattice's place, stretched -/
def sptP : List Int → List (List Int) → List Int
  | [x, y], [[t, b], [s, c]] => [x * t * c, y * s * b, b * c]
  | [x, y, z], [[t, b], [s, c], [u, e]] => [x * t * (c * e), y * s * (b * e), z * u * (b * c), b * c * e]
  | _, _ => []
structure Strd (d k : Nat) (fs : List (List Int)) : Prop where
  len : fs.length = d
  dim : d = 2 ∨ d = 3
  all : ∀ f ∈ fs, FrP k f
theorem Strd.c2 {k : Nat} {fs : List (List Int)} (h : Strd 2 k fs) : ∃ t b s c, fs = [[t, b], [s, c]] ∧ 0 < t ∧ 0 < b ∧ 0 < s ∧ 0 < c ∧ Bd k t ∧ Bd k b ∧ Bd k s ∧ Bd k c := by
  obtain ⟨l, _, al⟩ := h
  match fs, l with
  | [f, g], _ =>
    obtain ⟨t, b, rfl, h1, h2, h3, h4⟩ := (al f (by simp)).ex
    obtain ⟨s, c, rfl, h5, h6, h7, h8⟩ := (al g (by simp)).ex
    exact ⟨t, b, s, c, rfl, h1, h2, h5, h6, h3, h4, h7, h8⟩
theorem Strd.c3 {k : Nat} {fs : List (List Int)} (h : Strd 3 k fs) : ∃ t b s c u e, fs = [[t, b], [s, c], [u, e]] ∧ 0 < t ∧ 0 < b ∧ 0 < s ∧ 0 < c ∧ 0 < u ∧ 0 < e ∧ Bd k t ∧ Bd k b ∧ Bd k s ∧ Bd k c ∧ Bd k u ∧ Bd k e := by
  obtain ⟨l, _, al⟩ := h
  match fs, l with
  | [f, g, i], _ =>
    obtain ⟨t, b, rfl, h1, h2, h3, h4⟩ := (al f (by simp)).ex
    obtain ⟨s, c, rfl, h5, h6, h7, h8⟩ := (al g (by simp)).ex
    obtain ⟨u, e, rfl, h9, h10, h11, h12⟩ := (al i (by simp)).ex
    exact ⟨t, b, s, c, u, e, rfl, h1, h2, h5, h6, h9, h10, h3, h4, h7, h8, h11, h12⟩
theorem spt_raw2 {x y : Int} {k : Nat} {fs : List (List Int)} (h : Strd 2 k fs) : Raw 2 (sptP [x, y] fs) := by
  obtain ⟨t, b, s, c, rfl, h1, h2, h3, h4, _⟩ := h.c2
  exact raw_2 (Int.mul_pos h2 h4)
theorem spt_raw3 {x y z : Int} {k : Nat} {fs : List (List Int)} (h : Strd 3 k fs) : Raw 3 (sptP [x, y, z] fs) := by
  obtain ⟨t, b, s, c, u, e, rfl, h1, h2, h3, h4, h5, h6, _⟩ := h.c3
  exact raw_3 (Int.mul_pos (Int.mul_pos h2 h4) h6)
theorem spt_bd2 {x y : Int} {k : Nat} {fs : List (List Int)} (h : Strd 2 k fs) (hx : Bd 7 x) (hy : Bd 7 y) : BdL (2 * k + 7) (sptP [x, y] fs) := by
  obtain ⟨t, b, s, c, rfl, h1, h2, h3, h4, q1, q2, q3, q4⟩ := h.c2
  exact bdl_cons (((hx.mul q1).mul q4).le (by omega)) (bdl_cons (((hy.mul q3).mul q2).le (by omega)) (bdl_cons ((q2.mul q4).le (by omega)) bdl_nil))
theorem spt_bd3 {x y z : Int} {k : Nat} {fs : List (List Int)} (h : Strd 3 k fs) (hx : Bd 7 x) (hy : Bd 7 y) (hz : Bd 7 z) : BdL (3 * k + 7) (sptP [x, y, z] fs) := by
  obtain ⟨t, b, s, c, u, e, rfl, h1, h2, h3, h4, h5, h6, q1, q2, q3, q4, q5, q6⟩ := h.c3
  exact bdl_cons (((hx.mul q1).mul (q4.mul q6)).le (by omega)) (bdl_cons (((hy.mul q3).mul (q2.mul q6)).le (by omega)) (bdl_cons (((hz.mul q5).mul (q2.mul q4)).le (by omega)) (bdl_cons (((q2.mul q4).mul q6).le (by omega)) bdl_nil)))
theorem spt_det2 {a b c e f g : Int} {k : Nat} {fs : List (List Int)} (h : Strd 2 k fs) : sdS [sptP [a, b] fs, sptP [c, e] fs, sptP [f, g] fs] = rk (hdt (up1 [[a, b], [c, e], [f, g]])) := by
  obtain ⟨t, u, s, v, rfl, h1, h2, h3, h4, _⟩ := h.c2
  refine sd_of (c := (t * v) * (s * u) * (u * v)) (Int.mul_pos (Int.mul_pos (Int.mul_pos h1 h4) (Int.mul_pos h3 h2)) (Int.mul_pos h2 h4)) ?_
  simp only [sptP, up1, List.map_cons, List.map_nil, List.cons_append, List.nil_append, hdt]
  grind
theorem spt_det3 {a b c e f g i j k l m n : Int} {kk : Nat} {fs : List (List Int)} (h : Strd 3 kk fs) : sdS [sptP [a, b, c] fs, sptP [e, f, g] fs, sptP [i, j, k] fs, sptP [l, m, n] fs] = rk (hdt (up1 [[a, b, c], [e, f, g], [i, j, k], [l, m, n]])) := by
  obtain ⟨t, u, s, v, q, w, rfl, h1, h2, h3, h4, h5, h6, _⟩ := h.c3
  refine sd_of (c := (t * (v * w)) * (s * (u * w)) * (q * (u * v)) * (u * v * w)) (Int.mul_pos (Int.mul_pos (Int.mul_pos (Int.mul_pos h1 (Int.mul_pos h4 h6)) (Int.mul_pos h3 (Int.mul_pos h2 h6))) (Int.mul_pos h5 (Int.mul_pos h2 h4))) (Int.mul_pos (Int.mul_pos h2 h4) h6)) ?_
  simp only [sptP, up1, List.map_cons, List.map_nil, List.cons_append, List.nil_append, hdt]
  grind
/-- a corner's place, stretched and pushed -/
def layP (fs : List (List Int)) (far c : List Int) : List Int := addS (lowL (sptP c fs)) far
theorem lay_2 {a b c e f g : Int} {k : Nat} {fs : List (List Int)} {far : List Int} (h : Strd 2 k fs) (hf : Raw 2 far) : sdS [layP fs far [a, b], layP fs far [c, e], layP fs far [f, g]] = rk (hdt (up1 [[a, b], [c, e], [f, g]])) := by
  unfold layP
  have r : ∀ x y, Raw 2 (sptP [x, y] fs) := fun x y => spt_raw2 h
  rw [sd_add2 (raw_low (r _ _)) (raw_low (r _ _)) (raw_low (r _ _)) hf, sd_lows2 (r _ _) (r _ _) (r _ _), spt_det2 h]
theorem lay_3 {a b c e f g i j k l m n : Int} {kk : Nat} {fs : List (List Int)} {far : List Int} (h : Strd 3 kk fs) (hf : Raw 3 far) : sdS [layP fs far [a, b, c], layP fs far [e, f, g], layP fs far [i, j, k], layP fs far [l, m, n]] = rk (hdt (up1 [[a, b, c], [e, f, g], [i, j, k], [l, m, n]])) := by
  unfold layP
  have r : ∀ x y z, Raw 3 (sptP [x, y, z] fs) := fun x y z => spt_raw3 h
  rw [sd_add3 (raw_low (r _ _ _)) (raw_low (r _ _ _)) (raw_low (r _ _ _)) (raw_low (r _ _ _)) hf, sd_lows3 (r _ _ _) (r _ _ _) (r _ _ _) (r _ _ _), spt_det3 h]
theorem fr_frp {t b : Int} {k : Nat} (ht : 0 < t) (hb : 0 < b) (h1 : Bd k t) (h2 : Bd k b) : FrP k (frL t b) := by
  have c := fr_cross (t := t) hb
  refine ⟨_, _, rfl, c.2.2.2.2.2 ht, c.2.1, ?_, ?_⟩
  · exact Nat.lt_of_le_of_lt c.2.2.2.1 h1
  · have := c.2.2.1
    have := c.2.1
    exact Nat.lt_of_le_of_lt (show _ ≤ b.natAbs by omega) h2
/-! ### prisms, pyramids -/
def rsd : List Int → List Int
  | [a, b, w] => [a, b, 0, w]
  | _ => []
theorem raw_rsd {p : List Int} (h : Raw 2 p) : Raw 3 (rsd p) := by
  obtain ⟨a, b, w, rfl, hw⟩ := raw2_inv h
  exact raw_3 hw
theorem Pt.rsd {k : Nat} {p : List Int} (h : Pt 2 k p) : Pt 3 k (rsd p) := by
  obtain ⟨a, b, w, rfl, hw, h1, h2, h3⟩ := h.c2
  refine ⟨raw_3 hw, bdl_cons h1 (bdl_cons h2 (bdl_cons (by unfold Bd; exact Nat.pow_pos (by decide)) (bdl_cons h3 bdl_nil))), ?_⟩
  have := h.low
  show gcdL 0 [a, b, 0, w] = 1
  simpa [gcdL] using this
/-- an arrow's height -/
def hgt : List Int → Int
  | [_, _, z, _] => z
  | _ => 0
def prs1 (a p q r : List Int) : List (List Int) := [rsd p, rsd q, rsd r, addS (rsd p) a]
def prs2 (a p q r : List Int) : List (List Int) := [rsd q, rsd r, addS (rsd p) a, addS (rsd q) a]
def prs3 (a p q r : List Int) : List (List Int) := [rsd r, addS (rsd p) a, addS (rsd q) a, addS (rsd r) a]
theorem rk_eqv {ps : List (List Int)} {c z : Int} (hc : 0 < c) (h : hdt ps = c * z) : sdS ps = rk z := by
  unfold sdS
  rw [h, rk_pos hc]
section
variable {a p q r : List Int} (ha : Raw 3 a) (hp : Raw 2 p) (hq : Raw 2 q) (hr : Raw 2 r)
include ha hp hq hr
theorem prs1_det : sdS (prs1 a p q r) = rk (hgt a * hdt [p, q, r]) := by
  have P := raw_rsd hp
  have Q := raw_rsd hq
  have S := raw_rsd hr
  unfold prs1 addS
  rw [(sd_low3 P Q S (raw_add P ha)).2.2.2]
  refine rk_eqv (c := lst p) (raw_lst hp) ?_
  obtain ⟨x0, y0, w0, rfl, _⟩ := raw2_inv hp
  obtain ⟨x1, y1, w1, rfl, _⟩ := raw2_inv hq
  obtain ⟨x2, y2, w2, rfl, _⟩ := raw2_inv hr
  obtain ⟨x3, y3, z3, w3, rfl, _⟩ := raw3_inv ha
  simp only [rsd, addP, hdt, hgt, lst, List.getLastD_cons, List.getLastD_nil]
  grind
theorem prs2_det : sdS (prs2 a p q r) = rk (hgt a * hdt [p, q, r]) := by
  have P := raw_rsd hp
  have Q := raw_rsd hq
  have S := raw_rsd hr
  unfold prs2 addS
  rw [(sd_low3 Q S (raw_add P ha) (raw_low (raw_add Q ha))).2.2.1, (sd_low3 Q S (raw_add P ha) (raw_add Q ha)).2.2.2]
  refine rk_eqv (c := lst a * lst q) (Int.mul_pos (raw_lst ha) (raw_lst hq)) ?_
  obtain ⟨x0, y0, w0, rfl, _⟩ := raw2_inv hp
  obtain ⟨x1, y1, w1, rfl, _⟩ := raw2_inv hq
  obtain ⟨x2, y2, w2, rfl, _⟩ := raw2_inv hr
  obtain ⟨x3, y3, z3, w3, rfl, _⟩ := raw3_inv ha
  simp only [rsd, addP, hdt, hgt, lst, List.getLastD_cons, List.getLastD_nil]
  grind
theorem prs3_det : sdS (prs3 a p q r) = rk (hgt a * hdt [p, q, r]) := by
  have P := raw_rsd hp
  have Q := raw_rsd hq
  have S := raw_rsd hr
  unfold prs3 addS
  rw [(sd_low3 S (raw_add P ha) (raw_low (raw_add Q ha)) (raw_low (raw_add S ha))).2.1, (sd_low3 S (raw_add P ha) (raw_add Q ha) (raw_low (raw_add S ha))).2.2.1, (sd_low3 S (raw_add P ha) (raw_add Q ha) (raw_add S ha)).2.2.2]
  refine rk_eqv (c := lst a * lst a * lst r) (Int.mul_pos (Int.mul_pos (raw_lst ha) (raw_lst ha)) (raw_lst hr)) ?_
  obtain ⟨x0, y0, w0, rfl, _⟩ := raw2_inv hp
  obtain ⟨x1, y1, w1, rfl, _⟩ := raw2_inv hq
  obtain ⟨x2, y2, w2, rfl, _⟩ := raw2_inv hr
  obtain ⟨x3, y3, z3, w3, rfl, _⟩ := raw3_inv ha
  simp only [rsd, addP, hdt, hgt, lst, List.getLastD_cons, List.getLastD_nil]
  grind
end
theorem pyr_det {t p q r : List Int} (ht : Raw 3 t) (hp : Raw 2 p) (hq : Raw 2 q) (hr : Raw 2 r) : hdt [rsd p, rsd q, rsd r, t] = hgt t * hdt [p, q, r] := by
  obtain ⟨x0, y0, w0, rfl, _⟩ := raw2_inv hp
  obtain ⟨x1, y1, w1, rfl, _⟩ := raw2_inv hq
  obtain ⟨x2, y2, w2, rfl, _⟩ := raw2_inv hr
  obtain ⟨x3, y3, z3, w3, rfl, _⟩ := raw3_inv ht
  simp only [rsd, hdt, hgt]
  grind
/-- what a prism tells of one triangle -/
def prsS (a : List Int) : List (List Int) → List (List (List Int))
  | [p, q, r] => [smpS (prs1 a p q r), smpS (prs2 a p q r), smpS (prs3 a p q r)]
  | _ => []
def prsH (a : List Int) : List (List (List Int)) → List (List (List Int))
  | [] => []
  | s :: g => prsS a s ++ prsH a g
def pyrS (t : List Int) : List (List Int) → List (List Int)
  | [p, q, r] => smpS [rsd p, rsd q, rsd r, t]
  | _ => []
theorem Smp.c2 {k : Nat} {s : List (List Int)} (h : Smp 2 k s) : ∃ p q r, s = [p, q, r] ∧ Pt 2 k p ∧ Pt 2 k q ∧ Pt 2 k r ∧ 0 < hdt [p, q, r] := by
  obtain ⟨p, q, r, rfl, h1, h2, h3⟩ := h.pts.c2
  exact ⟨p, q, r, rfl, h1, h2, h3, h.pos⟩
theorem prs_pts {k : Nat} {a p q r : List Int} (ha : Pt 3 41 a) (hp : Pt 2 k p) (hq : Pt 2 k q) (hr : Pt 2 k r) : Pts 3 (k + 42) (prs1 a p q r) ∧ Pts 3 (k + 42) (prs2 a p q r) ∧ Pts 3 (k + 42) (prs3 a p q r) :=
  ⟨pts3 (hp.rsd.le (by omega)) (hq.rsd.le (by omega)) (hr.rsd.le (by omega)) ((hp.rsd.add ha).le (by omega)), pts3 (hq.rsd.le (by omega)) (hr.rsd.le (by omega)) ((hp.rsd.add ha).le (by omega)) ((hq.rsd.add ha).le (by omega)), pts3 (hr.rsd.le (by omega)) ((hp.rsd.add ha).le (by omega)) ((hq.rsd.add ha).le (by omega)) ((hr.rsd.add ha).le (by omega))⟩
theorem prs_ne {k : Nat} {a p q r : List Int} (ha : Pt 3 41 a) (hz : hgt a ≠ 0) (hp : Pt 2 k p) (hq : Pt 2 k q) (hr : Pt 2 k r) (h : 0 < hdt [p, q, r]) : hdt (prs1 a p q r) ≠ 0 ∧ hdt (prs2 a p q r) ≠ 0 ∧ hdt (prs3 a p q r) ≠ 0 := by
  have z : hgt a * hdt [p, q, r] ≠ 0 := Int.mul_ne_zero hz (by omega)
  exact ⟨fun q' => z ((hdt_zero (prs1_det ha.raw hp.raw hq.raw hr.raw)).mp q'), fun q' => z ((hdt_zero (prs2_det ha.raw hp.raw hq.raw hr.raw)).mp q'), fun q' => z ((hdt_zero (prs3_det ha.raw hp.raw hq.raw hr.raw)).mp q')⟩
theorem prsS_smp {k : Nat} {a : List Int} {s : List (List Int)} (ha : Pt 3 41 a) (hz : hgt a ≠ 0) (h : Smp 2 k s) : ∀ x ∈ prsS a s, Smp 3 (k + 42) x := by
  obtain ⟨p, q, r, rfl, hp, hq, hr, h0⟩ := h.c2
  obtain ⟨p1, p2, p3⟩ := prs_pts ha hp hq hr
  obtain ⟨n1, n2, n3⟩ := prs_ne ha hz hp hq hr h0
  intro x hx
  simp only [prsS, List.mem_cons, List.not_mem_nil, or_false] at hx
  rcases hx with rfl | rfl | rfl
  · exact p1.made n1
  · exact p2.made n2
  · exact p3.made n3
theorem prsH_smp {k : Nat} {a : List Int} (ha : Pt 3 41 a) (hz : hgt a ≠ 0) : ∀ {g : List (List (List Int))}, (∀ s ∈ g, Smp 2 k s) → ∀ x ∈ prsH a g, Smp 3 (k + 42) x
  | [], _, x, hx => by simp [prsH] at hx
  | s :: g, h, x, hx => by
    rcases List.mem_append.mp hx with hx | hx
    · exact prsS_smp ha hz (h s List.mem_cons_self) x hx
    · exact prsH_smp ha hz (fun y hy => h y (List.mem_cons_of_mem _ hy)) x hx
theorem prsS_length {k : Nat} {a : List Int} {s : List (List Int)} (h : Smp 2 k s) : (prsS a s).length = 3 := by
  obtain ⟨p, q, r, rfl, _⟩ := h.c2
  rfl
theorem prsH_length {k : Nat} {a : List Int} : ∀ {g : List (List (List Int))}, (∀ s ∈ g, Smp 2 k s) → (prsH a g).length = 3 * g.length
  | [], _ => rfl
  | s :: g, h => by
    have := prsH_length (a := a) (g := g) fun y hy => h y (List.mem_cons_of_mem _ hy)
    simp only [prsH, List.length_append, prsS_length (h s List.mem_cons_self), this, List.length_cons]
    omega
theorem pyrS_smp {k : Nat} {t : List Int} {s : List (List Int)} (ht : Pt 3 41 t) (hk : 41 ≤ k) (hz : hgt t ≠ 0) (h : Smp 2 k s) : Smp 3 k (pyrS t s) := by
  obtain ⟨p, q, r, rfl, hp, hq, hr, h0⟩ := h.c2
  refine (pts3 hp.rsd hq.rsd hr.rsd (ht.le hk)).made ?_
  rw [pyr_det ht.raw hp.raw hq.raw hr.raw]
  exact Int.mul_ne_zero hz (by omega)
theorem RawC.le {d B C : Nat} {cs : List (List Int)} (h : RawC d B cs) (hB : B ≤ C) : RawC d C cs :=
  ⟨h.len, h.dim, fun c hc => ⟨(h.all c hc).1, fun x hx => ⟨((h.all c hc).2 x hx).1, by have := ((h.all c hc).2 x hx).2; omega⟩⟩, h.det⟩
theorem flips_raw {cs : List (List Int)} {m : Int} (h : RawC 3 1 cs) (hm : m = 0 ∨ m = 1 ∨ m = 2) : ∃ cs', flipsL m cs = some cs' ∧ RawC 3 1 cs' := by
  have hd := h.det
  obtain ⟨a, b, c, e, f, g, i, j, k, l, m, n, rfl, hb⟩ := h.c3
  simp only [List.mem_cons, List.not_mem_nil, or_false, forall_eq_or_imp, forall_eq] at hb
  obtain ⟨b1, b2, b3, b4, b5, b6, b7, b8, b9, b10, b11, b12⟩ := hb
  simp only [up1, List.map_cons, List.map_nil, List.cons_append, List.nil_append, hdt] at hd
  rcases hm with rfl | rfl | rfl
  · refine ⟨[[1 - a, b, c], [1 - e, f, g], [1 - i, j, k], [1 - l, m, n]], rfl, rfl, .inr rfl, fun x hx => ?_, ?_⟩
    · simp only [List.mem_cons, List.not_mem_nil, or_false] at hx
      rcases hx with rfl | rfl | rfl | rfl <;> refine ⟨rfl, fun x hx => ?_⟩ <;> simp only [List.mem_cons, List.not_mem_nil, or_false] at hx <;> omega
    · simp only [up1, List.map_cons, List.map_nil, List.cons_append, List.nil_append, hdt]
      grind
  · refine ⟨[[a, 1 - b, c], [e, 1 - f, g], [i, 1 - j, k], [l, 1 - m, n]], rfl, rfl, .inr rfl, fun x hx => ?_, ?_⟩
    · simp only [List.mem_cons, List.not_mem_nil, or_false] at hx
      rcases hx with rfl | rfl | rfl | rfl <;> refine ⟨rfl, fun x hx => ?_⟩ <;> simp only [List.mem_cons, List.not_mem_nil, or_false] at hx <;> omega
    · simp only [up1, List.map_cons, List.map_nil, List.cons_append, List.nil_append, hdt]
      grind
  · refine ⟨[[a, b, 1 - c], [e, f, 1 - g], [i, j, 1 - k], [l, m, 1 - n]], rfl, rfl, .inr rfl, fun x hx => ?_, ?_⟩
    · simp only [List.mem_cons, List.not_mem_nil, or_false] at hx
      rcases hx with rfl | rfl | rfl | rfl <;> refine ⟨rfl, fun x hx => ?_⟩ <;> simp only [List.mem_cons, List.not_mem_nil, or_false] at hx <;> omega
    · simp only [up1, List.map_cons, List.map_nil, List.cons_append, List.nil_append, hdt]
      grind
end Mi

/-! MiX: simplexes moved, rows of cuttings. -/
namespace Mi
open PySem
/-! ### a comprehension over any list -/
theorem lc_maps {α : Type} {vs : List Nat} {bd : D → Sl → Option Sl} {tst : Sl → R Bool} {el : Sl → R Vl} {f g : α → D} {s : Sl} : ∀ (xs : List α) (acc : List D), (∀ a ∈ xs, ∀ ds acc, acc.length < 1000 → lcGo vs bd tst el (f a :: ds) acc s = lcGo vs bd tst el ds (acc ++ [g a]) s) → acc.length + xs.length ≤ 1000 →
    lcGo vs bd tst el (xs.map f) acc s = .ok (acc ++ xs.map g) s
  | [], acc, _, _ => by simp [lcGo]
  | a :: xs, acc, h, hl => by
    simp only [List.length_cons] at hl
    rw [List.map_cons, h a List.mem_cons_self _ _ (by omega), lc_maps xs (acc ++ [g a]) (fun b hb => h b (List.mem_cons_of_mem _ hb)) (by simp; omega)]
    simp
/-! ### a simplex moved -/
def mvC (w : Int) (a : List Int) (s : List (List Int)) : List (List Int) := smpS (s.map (mvS w a))
theorem mv_pts {d k l : Nat} {w : Int} {a : List Int} {s : List (List Int)} (h : Pts d k s) (ha : Pt d l a) : Pts d (k + l + 1) (s.map (mvS w a)) :=
  ⟨by rw [List.length_map]; exact h.len, fun p hp => by
    obtain ⟨q, hq, rfl⟩ := List.mem_map.mp hp
    exact (h.all q hq).mv ha, h.dim⟩
theorem rk_zero' (z : Int) : rk z = 0 ↔ z = 0 := by
  unfold rk
  split
  · constructor <;> intro h <;> omega
  · split <;> constructor <;> intro h <;> omega
theorem sd_zero (ps : List (List Int)) : sdS ps = 0 ↔ hdt ps = 0 := rk_zero' _
theorem mv_ne {d k l : Nat} {w : Int} (hw : Way w) {a : List Int} {s : List (List Int)} (h : Pts d k s) (ha : Pt d l a) (h0 : hdt s ≠ 0) : hdt (s.map (mvS w a)) ≠ 0 := by
  rw [Ne, ← sd_zero] at h0 ⊢
  rcases h.dim with rfl | rfl
  · obtain ⟨p, q, r, rfl, hp, hq, hr⟩ := h.c2
    rcases hw with rfl | rfl
    · simp only [List.map_cons, List.map_nil, mvS_1]
      rw [sd_add2 hp.raw hq.raw hr.raw ha.raw]
      exact h0
    · simp only [List.map_cons, List.map_nil, mvS_m]
      rw [addS_comm ha.raw (raw_ng hp.raw), addS_comm ha.raw (raw_ng hq.raw), addS_comm ha.raw (raw_ng hr.raw), sd_add2 (raw_ng hp.raw) (raw_ng hq.raw) (raw_ng hr.raw) ha.raw, sd_ng2 hp.raw hq.raw hr.raw]
      exact h0
  · obtain ⟨p, q, r, t, rfl, hp, hq, hr, ht⟩ := h.c3
    rcases hw with rfl | rfl
    · simp only [List.map_cons, List.map_nil, mvS_1]
      rw [sd_add3 hp.raw hq.raw hr.raw ht.raw ha.raw]
      exact h0
    · simp only [List.map_cons, List.map_nil, mvS_m]
      rw [addS_comm ha.raw (raw_ng hp.raw), addS_comm ha.raw (raw_ng hq.raw), addS_comm ha.raw (raw_ng hr.raw), addS_comm ha.raw (raw_ng ht.raw), sd_add3 (raw_ng hp.raw) (raw_ng hq.raw) (raw_ng hr.raw) (raw_ng ht.raw) ha.raw, sd_ng3 hp.raw hq.raw hr.raw ht.raw]
      omega
theorem Smp.mv {d k l : Nat} {w : Int} (hw : Way w) {a : List Int} {s : List (List Int)} (h : Smp d k s) (ha : Pt d l a) : Smp d (k + l + 1) (mvC w a s) :=
  (mv_pts h.pts ha).made (mv_ne hw h.pts ha (by have := h.pos; omega))
theorem mvC_back {d k l : Nat} {w : Int} (hw : Way w) {a : List Int} {s : List (List Int)} (h : Smp d k s) (ha : Pt d l a) : mvC w (unS w a) (mvC w a s) = s := by
  unfold mvC
  rw [smpS_of_perm ((smpS_perm (s.map (mvS w a))).map (mvS w (unS w a))), List.map_map]
  have e : s.map (mvS w (unS w a) ∘ mvS w a) = s := by
    conv => rhs; rw [← List.map_id s]
    refine List.map_congr_left fun p hp => ?_
    show mvS w (unS w a) (mvS w a p) = p
    rw [mv_un hw ha.raw (h.pts.all p hp).raw, (h.pts.all p hp).id]
  rw [e]
  exact h.one
/-! ### rows of a cutting -/
abbrev Crow := List (List Int) × Int × List Int
def CR (s : List (List Int)) (w : Int) (a : List Int) : D := .tuple [TT s, MV w a]
def crD (r : Crow) : D := CR r.1 r.2.1 r.2.2
def LC (c : List Crow) : D := .list (c.map crD)
def TC (c : List Crow) : D := .tuple (c.map crD)
theorem nice_CR : Nice crD 4 := ⟨fun a b => by
  obtain ⟨a1, a2, a3⟩ := a
  obtain ⟨b1, b2, b3⟩ := b
  show PyData.eqvAll [TT a1, MV a2 a3] [TT b1, MV b2 b3] = _
  have e := nice_MV.eqv (a2, a3) (b2, b3)
  simp only at e
  simp only [PyData.eqvAll, nice_TT.eqv, e]
  by_cases h1 : a1 = b1 <;> by_cases h2 : a2 = b2 <;> by_cases h3 : a3 = b3 <;> simp [h1, h2, h3], fun a => by
  show PyData.canLayAll0 [TT a.1, MV a.2.1 a.2.2] = true
  have e := nice_MV.lay (a.2.1, a.2.2)
  simp only at e
  simp [PyData.canLayAll0, nice_TT.lay, e], fun a => by
  have h1 := nice_TT.dep a.1
  have h2 := nice_MV.dep (a.2.1, a.2.2)
  simp only at h2
  show PyData.depthAll [TT a.1, MV a.2.1 a.2.2] + 1 ≤ 4
  simp only [PyData.depthAll]
  omega⟩
theorem eqB_LC (a b : List Crow) : eqB (LC a) (LC b) = some (decide (a = b)) := nice_CR.lst.eqB (by decide) a b
theorem eqB_TC (a b : List Crow) : eqB (TC a) (TC b) = some (decide (a = b)) := nice_CR.tup.eqB (by decide) a b
section
variable (s : List (List Int)) (w : Int) (a : List Int) (c : List Crow)
theorem fCR : PyData.tuple [TT s, MV w a] = CR s w a := rfl
theorem fCRd : CR s w a = crD (s, w, a) := rfl
theorem crD_m : crD (s, w, a) = CR s w a := rfl
theorem ixCR0 : ixD (CR s w a) (.int 0) = some (TT s) := rfl
theorem ixCR1 : ixD (CR s w a) (.int 1) = some (MV w a) := rfl
theorem lenCR : bltD .len [CR s w a] = some (.dt (.int 2)) := rfl
theorem isTCR : isTD (CR s w a) .tuple = some true := rfl
theorem tupO_CR : tupO (CR s w a) = some [TT s, MV w a] := rfl
theorem fLCm : PyData.list (c.map crD) = LC c := rfl
theorem fTCm : PyData.tuple (c.map crD) = TC c := rfl
theorem fLC1 : PyData.list [CR s w a] = LC [(s, w, a)] := rfl
theorem it_LC : itemsOf (LC c) = some (c.map crD) := rfl
theorem it_TC : itemsOf (TC c) = some (c.map crD) := rfl
theorem tup_LC : bltD .tuple [LC c] = some (.dt (TC c)) := rfl
theorem lst_TC : bltD .list [TC c] = some (.nw (LC c)) := rfl
theorem lst_LC : bltD .list [LC c] = some (.nw (LC c)) := rfl
theorem isT_TC : isTD (TC c) .tuple = some true := rfl
theorem len_LC : bltD .len [LC c] = some (.dt (.int c.length)) := by simp [bltD, LC]
theorem len_TC : bltD .len [TC c] = some (.dt (.int c.length)) := by simp [bltD, TC]
end
theorem app_LC {c : List Crow} {s : List (List Int)} {w : Int} {a : List Int} (h : c.length < 1000) : mthO .append (LC c) [CR s w a] = some (.none, LC (c ++ [(s, w, a)])) := by
  simp [mthO, lstO, LC, mthD, lt_sizeLine h, crD]
/-- the moved ones, the moves back -/
def goC (c : List Crow) : List (List (List Int)) := c.map fun r => mvC r.2.1 r.2.2 r.1
def bkC (c : List Crow) : List Crow := c.map fun r => (mvC r.2.1 r.2.2 r.1, r.2.1, unS r.2.1 r.2.2)
structure Row (d k l : Nat) (r : Crow) : Prop where
  smp : Smp d k r.1
  way : Way r.2.1
  arr : Pt d l r.2.2
theorem Row.bk {d k l : Nat} {r : Crow} (h : Row d k l r) : Row d (k + l + 1) l (mvC r.2.1 r.2.2 r.1, r.2.1, unS r.2.1 r.2.2) := ⟨h.smp.mv h.way h.arr, h.way, h.arr.un⟩
theorem bk_bk {d k l : Nat} {c : List Crow} (h : ∀ r ∈ c, Row d k l r) : bkC (bkC c) = c := by
  unfold bkC
  rw [List.map_map]
  conv => rhs; rw [← List.map_id c]
  refine List.map_congr_left fun r hr => ?_
  have q := h r hr
  obtain ⟨s, w, a⟩ := r
  show (mvC w (unS w a) (mvC w a s), w, unS w (unS w a)) = (s, w, a)
  rw [mvC_back q.way q.smp q.arr, un_un q.way q.arr.raw]
/-! ### sizes -/
def lstp : List (List Int) → Int
  | [p, q, r] => lst p * lst q * lst r
  | [p, q, r, s] => lst p * lst q * lst r * lst s
  | _ => 1
def shr (s : List (List Int)) : Int := if s.length = 4 then 6 else 2
/-- a simplex's size -/
def sizS (s : List (List Int)) : List Int := frL (hdt s) (lstp s * shr s)
def addF : List Int → List Int → List Int
  | [a, b], [c, e] => frL (a * e + b * c) (b * e)
  | _, _ => []
structure FrB (k : Nat) (f : List Int) : Prop where
  ex : ∃ a b, f = [a, b] ∧ 0 < b ∧ Bd k a ∧ Bd k b
theorem FrB.le {k l : Nat} {f : List Int} (h : FrB k f) (hl : k ≤ l) : FrB l f := by
  obtain ⟨a, b, e, h0, h1, h2⟩ := h.ex
  exact ⟨a, b, e, h0, h1.le hl, h2.le hl⟩
theorem fr_frb {t b : Int} {k : Nat} (hb : 0 < b) (h1 : Bd k t) (h2 : Bd k b) : FrB k (frL t b) := by
  have c := fr_cross (t := t) hb
  refine ⟨_, _, rfl, c.2.1, ?_, ?_⟩
  · exact Nat.lt_of_le_of_lt c.2.2.2.1 h1
  · have := c.2.2.1
    have := c.2.1
    exact Nat.lt_of_le_of_lt (show _ ≤ b.natAbs by omega) h2
theorem addF_frb {k l : Nat} {f g : List Int} (h : FrB k f) (h' : FrB l g) : FrB (k + l + 1) (addF f g) := by
  obtain ⟨a, b, rfl, b0, a1, b1⟩ := h.ex
  obtain ⟨c, e, rfl, e0, c1, e1⟩ := h'.ex
  exact fr_frb (Int.mul_pos b0 e0) (((a1.mul e1).add (b1.mul c1)).le (by omega)) ((b1.mul e1).le (by omega))
theorem hdt_bd2 {k : Nat} {p q r : List Int} (hp : Pt 2 k p) (hq : Pt 2 k q) (hr : Pt 2 k r) : Bd (3 * k + 4) (hdt [p, q, r]) := by
  obtain ⟨a, b, w, rfl, _, a1, a2, a3⟩ := hp.c2
  obtain ⟨c, d, v, rfl, _, b1, b2, b3⟩ := hq.c2
  obtain ⟨e, f, u, rfl, _, c1, c2, c3⟩ := hr.c2
  exact (((a3.mul ((b1.mul c2).sub (b2.mul c1))).sub (b3.mul ((a1.mul c2).sub (a2.mul c1)))).add (c3.mul ((a1.mul b2).sub (a2.mul b1)))).le (by omega)
theorem dt3_bd {k : Nat} {x0 y0 z0 x1 y1 z1 x2 y2 z2 : Int} (a1 : Bd k x0) (a2 : Bd k y0) (a3 : Bd k z0) (b1 : Bd k x1) (b2 : Bd k y1) (b3 : Bd k z1) (c1 : Bd k x2) (c2 : Bd k y2) (c3 : Bd k z2) :
    Bd (3 * k + 3) (x0 * (y1 * z2 - z1 * y2) + y0 * (z1 * x2 - x1 * z2) + z0 * (x1 * y2 - y1 * x2)) :=
  (((a1.mul ((b2.mul c3).sub (b3.mul c2))).add (a2.mul ((b3.mul c1).sub (b1.mul c3)))).add (a3.mul ((b1.mul c2).sub (b2.mul c1)))).le (by omega)
theorem hdt_bd3 {k : Nat} {p q r s : List Int} (hp : Pt 3 k p) (hq : Pt 3 k q) (hr : Pt 3 k r) (hs : Pt 3 k s) : Bd (4 * k + 6) (hdt [p, q, r, s]) := by
  obtain ⟨x0, y0, z0, w0, rfl, _, a1, a2, a3, a4⟩ := hp.c3
  obtain ⟨x1, y1, z1, w1, rfl, _, b1, b2, b3, b4⟩ := hq.c3
  obtain ⟨x2, y2, z2, w2, rfl, _, c1, c2, c3, c4⟩ := hr.c3
  obtain ⟨x3, y3, z3, w3, rfl, _, d1, d2, d3, d4⟩ := hs.c3
  exact ((((a4.mul (dt3_bd b1 b2 b3 c1 c2 c3 d1 d2 d3)).sub (b4.mul (dt3_bd a1 a2 a3 c1 c2 c3 d1 d2 d3))).add (c4.mul (dt3_bd a1 a2 a3 b1 b2 b3 d1 d2 d3))).sub (d4.mul (dt3_bd a1 a2 a3 b1 b2 b3 c1 c2 c3))).le (by omega)
theorem Pt.lstB {d k : Nat} {p : List Int} (h : Pt d k p) (hd : d = 2 ∨ d = 3) : Bd k (lst p) ∧ p.getLast? = some (lst p) := by
  rcases hd with rfl | rfl
  · obtain ⟨a, b, w, rfl, _, a1, a2, a3⟩ := h.c2
    exact ⟨a3, rfl⟩
  · obtain ⟨a, b, c, w, rfl, _, a1, a2, a3, a4⟩ := h.c3
    exact ⟨a4, rfl⟩
theorem smp_size {d k : Nat} {s : List (List Int)} (h : Smp d k s) : FrB (4 * k + 8) (sizS s) ∧ 0 < lstp s ∧ Bd (4 * k + 4) (lstp s) := by
  rcases h.pts.dim with rfl | rfl
  · obtain ⟨p, q, r, rfl, hp, hq, hr⟩ := h.pts.c2
    have z := Int.mul_pos (Int.mul_pos (lst_pos hp) (lst_pos hq)) (lst_pos hr)
    have b := ((hp.lstB (.inl rfl)).1.mul (hq.lstB (.inl rfl)).1).mul (hr.lstB (.inl rfl)).1
    refine ⟨fr_frb (Int.mul_pos z (show (0 : Int) < 2 by decide)) ((hdt_bd2 hp hq hr).le (by omega)) ?_, z, b.le (by omega)⟩
    exact (b.mul (show Bd 2 (2 : Int) by unfold Bd; decide)).le (by omega)
  · obtain ⟨p, q, r, t, rfl, hp, hq, hr, ht⟩ := h.pts.c3
    have z := Int.mul_pos (Int.mul_pos (Int.mul_pos (lst_pos hp) (lst_pos hq)) (lst_pos hr)) (lst_pos ht)
    have b := (((hp.lstB (.inr rfl)).1.mul (hq.lstB (.inr rfl)).1).mul (hr.lstB (.inr rfl)).1).mul (ht.lstB (.inr rfl)).1
    refine ⟨fr_frb (Int.mul_pos z (show (0 : Int) < 6 by decide)) ((hdt_bd3 hp hq hr ht).le (by omega)) ?_, z, b.le (by omega)⟩
    exact (b.mul (show Bd 3 (6 : Int) by unfold Bd; decide)).le (by omega)
theorem fr_times {h P m : Int} (hP : 0 < P) (hm : 0 < m) : frL ((fr h P).1 * 1) ((fr h P).2 * m) = frL h (P * m) := by
  have c := fr_cross (t := h) hP
  unfold frL
  rw [fr_eq (t := (fr h P).1 * 1) (b := (fr h P).2 * m) (t' := h) (b' := P * m) (Int.mul_pos c.2.1 hm) (Int.mul_pos hP hm) (by have := c.1; grind)]
/-- a heap's size -/
def szT (t : List Int) (h : List (List (List Int))) : List Int := h.foldl (fun t s => addF t (sizS s)) t
theorem szT_cons (t : List Int) (s : List (List Int)) (h : List (List (List Int))) : szT t (s :: h) = szT (addF t (sizS s)) h := rfl
theorem szT_frb {d k : Nat} : ∀ {h : List (List (List Int))} {t : List Int} {l : Nat}, (∀ s ∈ h, Smp d k s) → FrB l t → FrB (l + h.length * (4 * k + 9)) (szT t h)
  | [], t, l, _, ht => ht.le (by omega)
  | s :: h, t, l, hh, ht => by
    have e := szT_frb (h := h) (t := addF t (sizS s)) (l := l + (4 * k + 8) + 1) (fun x hx => hh x (List.mem_cons_of_mem _ hx)) (addF_frb ht (smp_size (hh s List.mem_cons_self)).1)
    rw [szT_cons]
    refine e.le ?_
    rw [List.length_cons, Nat.add_mul, Nat.one_mul]
    omega
theorem addF_fr {n m n' m' : Int} (h : 0 < m) (h' : 0 < m') : addF (frL n m) (frL n' m') = frL (n * m' + m * n') (m * m') := by
  have c := fr_cross (t := n) h
  have c' := fr_cross (t := n') h'
  show frL ((fr n m).1 * (fr n' m').2 + (fr n m).2 * (fr n' m').1) ((fr n m).2 * (fr n' m').2) = _
  unfold frL
  rw [fr_eq (t := (fr n m).1 * (fr n' m').2 + (fr n m).2 * (fr n' m').1) (b := (fr n m).2 * (fr n' m').2) (t' := n * m' + m * n') (b' := m * m') (Int.mul_pos c.2.1 c'.2.1) (Int.mul_pos h h') (by
    have e := c.1
    have e' := c'.1
    generalize (fr n m).1 = a at *
    generalize (fr n m).2 = b at *
    generalize (fr n' m').1 = a' at *
    generalize (fr n' m').2 = b' at *
    grind)]
def szP (p : Int × Int) (h : List (List (List Int))) : Int × Int := h.foldl (fun p s => (p.1 * (lstp s * shr s) + p.2 * hdt s, p.2 * (lstp s * shr s))) p
theorem shr_pos (s : List (List Int)) : 0 < shr s := by unfold shr; split <;> decide
theorem szT_fr {d k : Nat} : ∀ {h : List (List (List Int))} {n m : Int}, (∀ s ∈ h, Smp d k s) → 0 < m → szT (frL n m) h = frL (szP (n, m) h).1 (szP (n, m) h).2 ∧ 0 < (szP (n, m) h).2
  | [], n, m, _, h0 => ⟨rfl, h0⟩
  | s :: h, n, m, hh, h0 => by
    have z := Int.mul_pos (smp_size (hh s List.mem_cons_self)).2.1 (shr_pos s)
    have ih := szT_fr (h := h) (n := n * (lstp s * shr s) + m * hdt s) (m := m * (lstp s * shr s)) (fun x hx => hh x (List.mem_cons_of_mem _ hx)) (Int.mul_pos h0 z)
    rw [szT_cons, sizS, addF_fr h0 z]
    exact ih
theorem szP_mul : ∀ (h : List (List (List Int))) (n m : Int), szP (n, m) h = (n * (szP (0, 1) h).2 + m * (szP (0, 1) h).1, m * (szP (0, 1) h).2)
  | [], n, m => by simp [szP]
  | s :: h, n, m => by
    show szP (n * (lstp s * shr s) + m * hdt s, m * (lstp s * shr s)) h = ((n * (szP (0 * (lstp s * shr s) + 1 * hdt s, 1 * (lstp s * shr s)) h).2 + m * (szP (0 * (lstp s * shr s) + 1 * hdt s, 1 * (lstp s * shr s)) h).1, m * (szP (0 * (lstp s * shr s) + 1 * hdt s, 1 * (lstp s * shr s)) h).2) : Int × Int)
    rw [szP_mul h (n * (lstp s * shr s) + m * hdt s), szP_mul h (0 * (lstp s * shr s) + 1 * hdt s)]
    generalize szP (0, 1) h = q
    generalize lstp s * shr s = a
    generalize hdt s = b
    ext
    · show (n * a + m * b) * q.2 + m * a * q.1 = n * (1 * a * q.2) + m * ((0 * a + 1 * b) * q.2 + 1 * a * q.1)
      grind
    · show m * a * q.2 = m * (1 * a * q.2)
      grind
theorem fr01 : frL 0 1 = [0, 1] := rfl
/-- a heap put to a heap -/
theorem szT_app {d k : Nat} {g h : List (List (List Int))} (hg : ∀ s ∈ g, Smp d k s) (hh : ∀ s ∈ h, Smp d k s) : addF (szT [0, 1] g) (szT [0, 1] h) = szT [0, 1] (g ++ h) := by
  have e1 := szT_fr (n := 0) (m := 1) hg (by decide)
  have e2 := szT_fr (n := 0) (m := 1) hh (by decide)
  have e3 : szT [0, 1] (g ++ h) = szT (szT [0, 1] g) h := by unfold szT; rw [List.foldl_append]
  rw [fr01] at e1 e2
  rw [e3, e1.1, e2.1, addF_fr e1.2 e2.2, (szT_fr hh e1.2).1, show szP ((szP (0, 1) g).1, (szP (0, 1) g).2) h = _ from szP_mul h _ _]
/-! ### a size stays where a simplex is moved -/
def Qv (X Y : List (List Int)) : Prop := ((hdt X).natAbs : Int) * lstp Y = ((hdt Y).natAbs : Int) * lstp X
theorem qv_trans {X Y Z : List (List Int)} (h : 0 < lstp Y) (a : Qv X Y) (b : Qv Y Z) : Qv X Z := by
  unfold Qv at *
  refine Int.eq_of_mul_eq_mul_left (a := lstp Y) (by omega) ?_
  generalize ((hdt X).natAbs : Int) = x at *
  generalize ((hdt Y).natAbs : Int) = y at *
  generalize ((hdt Z).natAbs : Int) = z at *
  grind
theorem qv_sc {X Y : List (List Int)} {c c' : Int} (h0 : 0 ≤ c') (hc : c = c' ∨ c = -c') (h1 : hdt X = c * hdt Y) (h2 : lstp X = c' * lstp Y) : Qv X Y := by
  unfold Qv
  rw [h1, h2, Int.natAbs_mul]
  have e : (c.natAbs : Int) = c' := by omega
  rw [Int.natCast_mul, e]
  grind
theorem qv_symm {X Y : List (List Int)} (a : Qv X Y) : Qv Y X := Eq.symm a
theorem lst_sc {d : Nat} {p : List Int} {k : Int} (h : Raw d p) : lst (sc k p) = k * lst p := by
  rcases h with ⟨rfl, a, b, w, rfl, hw⟩ | ⟨rfl, a, b, c, w, rfl, hw⟩ <;> simp [lst, sc] <;> exact Int.mul_comm _ _
theorem l2p {x y z : List Int} (h : Raw 2 x) (h1 : Raw 2 y) (h2 : Raw 2 z) : 0 < lstp [x, y, z] := Int.mul_pos (Int.mul_pos (raw_lst h) (raw_lst h1)) (raw_lst h2)
theorem l3p {x y z u : List Int} (h : Raw 3 x) (h1 : Raw 3 y) (h2 : Raw 3 z) (h3 : Raw 3 u) : 0 < lstp [x, y, z, u] := Int.mul_pos (Int.mul_pos (Int.mul_pos (raw_lst h) (raw_lst h1)) (raw_lst h2)) (raw_lst h3)
theorem lst_low {d : Nat} {p : List Int} (h : Raw d p) : lst p = gcdL 0 p * lst (lowL p) := by
  have := lst_sc (k := gcdL 0 p) (raw_low h)
  rwa [low_sc] at this
theorem qv_low2 {p q r : List Int} (hp : Raw 2 p) (hq : Raw 2 q) (hr : Raw 2 r) : Qv [p, q, r] [lowL p, lowL q, lowL r] := by
  refine qv_sc (c := gcdL 0 p * (gcdL 0 q * gcdL 0 r)) (Int.le_of_lt (Int.mul_pos (gcd_pos' hp) (Int.mul_pos (gcd_pos' hq) (gcd_pos' hr)))) (.inl rfl) ?_ ?_
  · have h1 := (hdt_sc2 (gcdL 0 p) (raw_low hp) hq hr).1
    have h2 := (hdt_sc2 (gcdL 0 q) (raw_low hp) (raw_low hq) hr).2.1
    have h3 := (hdt_sc2 (gcdL 0 r) (raw_low hp) (raw_low hq) (raw_low hr)).2.2
    rw [low_sc] at h1 h2 h3
    rw [h1, h2, h3]
    grind
  · simp only [lstp]
    rw [lst_low hp, lst_low hq, lst_low hr]
    grind
theorem qv_low3 {p q r s : List Int} (hp : Raw 3 p) (hq : Raw 3 q) (hr : Raw 3 r) (hs : Raw 3 s) : Qv [p, q, r, s] [lowL p, lowL q, lowL r, lowL s] := by
  refine qv_sc (c := gcdL 0 p * (gcdL 0 q * (gcdL 0 r * gcdL 0 s))) (Int.le_of_lt (Int.mul_pos (gcd_pos' hp) (Int.mul_pos (gcd_pos' hq) (Int.mul_pos (gcd_pos' hr) (gcd_pos' hs))))) (.inl rfl) ?_ ?_
  · have h1 := (hdt_sc3 (gcdL 0 p) (raw_low hp) hq hr hs).1
    have h2 := (hdt_sc3 (gcdL 0 q) (raw_low hp) (raw_low hq) hr hs).2.1
    have h3 := (hdt_sc3 (gcdL 0 r) (raw_low hp) (raw_low hq) (raw_low hr) hs).2.2.1
    have h4 := (hdt_sc3 (gcdL 0 s) (raw_low hp) (raw_low hq) (raw_low hr) (raw_low hs)).2.2.2
    rw [low_sc] at h1 h2 h3 h4
    rw [h1, h2, h3, h4]
    grind
  · simp only [lstp]
    rw [lst_low hp, lst_low hq, lst_low hr, lst_low hs]
    grind
theorem qv_add2 {p q r f : List Int} (hp : Raw 2 p) (hq : Raw 2 q) (hr : Raw 2 r) (hf : Raw 2 f) : Qv [addP p f, addP q f, addP r f] [p, q, r] := by
  refine qv_sc (c := lst f * lst f * lst f) (Int.le_of_lt (Int.mul_pos (Int.mul_pos (raw_lst hf) (raw_lst hf)) (raw_lst hf))) (.inl rfl) ?_ ?_ <;> (
    obtain ⟨a, b, w, rfl, _⟩ := raw2_inv hp
    obtain ⟨c, d, v, rfl, _⟩ := raw2_inv hq
    obtain ⟨e, g, u, rfl, _⟩ := raw2_inv hr
    obtain ⟨k, l, m, rfl, _⟩ := raw2_inv hf
    simp only [addP, hdt, lstp, lst, List.getLastD_cons, List.getLastD_nil]
    grind)
theorem qv_add3 {p q r s f : List Int} (hp : Raw 3 p) (hq : Raw 3 q) (hr : Raw 3 r) (hs : Raw 3 s) (hf : Raw 3 f) : Qv [addP p f, addP q f, addP r f, addP s f] [p, q, r, s] := by
  refine qv_sc (c := lst f * lst f * (lst f * lst f)) (Int.le_of_lt (Int.mul_pos (Int.mul_pos (raw_lst hf) (raw_lst hf)) (Int.mul_pos (raw_lst hf) (raw_lst hf)))) (.inl rfl) ?_ ?_ <;> (
    obtain ⟨x0, y0, z0, w0, rfl, _⟩ := raw3_inv hp
    obtain ⟨x1, y1, z1, w1, rfl, _⟩ := raw3_inv hq
    obtain ⟨x2, y2, z2, w2, rfl, _⟩ := raw3_inv hr
    obtain ⟨x3, y3, z3, w3, rfl, _⟩ := raw3_inv hs
    obtain ⟨k, l, m, n, rfl, _⟩ := raw3_inv hf
    simp only [addP, hdt, lstp, lst, List.getLastD_cons, List.getLastD_nil]
    grind)
theorem qv_ng2 {p q r : List Int} (hp : Raw 2 p) (hq : Raw 2 q) (hr : Raw 2 r) : Qv [ngP p, ngP q, ngP r] [p, q, r] := by
  refine qv_sc (c := 1) (c' := 1) (by decide) (.inl rfl) ?_ ?_ <;> (
    obtain ⟨a, b, w, rfl, _⟩ := raw2_inv hp
    obtain ⟨c, d, v, rfl, _⟩ := raw2_inv hq
    obtain ⟨e, g, u, rfl, _⟩ := raw2_inv hr
    simp only [ngP, hdt, lstp, lst, List.getLastD_cons, List.getLastD_nil]
    grind)
theorem qv_ng3 {p q r s : List Int} (hp : Raw 3 p) (hq : Raw 3 q) (hr : Raw 3 r) (hs : Raw 3 s) : Qv [ngP p, ngP q, ngP r, ngP s] [p, q, r, s] := by
  refine qv_sc (c := -1) (c' := 1) (by decide) (.inr rfl) ?_ ?_ <;> (
    obtain ⟨x0, y0, z0, w0, rfl, _⟩ := raw3_inv hp
    obtain ⟨x1, y1, z1, w1, rfl, _⟩ := raw3_inv hq
    obtain ⟨x2, y2, z2, w2, rfl, _⟩ := raw3_inv hr
    obtain ⟨x3, y3, z3, w3, rfl, _⟩ := raw3_inv hs
    simp only [ngP, hdt, lstp, lst, List.getLastD_cons, List.getLastD_nil]
    grind)
theorem lstp_pos {d k : Nat} {s : List (List Int)} (h : Pts d k s) : 0 < lstp s := by
  rcases h.dim with rfl | rfl
  · obtain ⟨p, q, r, rfl, hp, hq, hr⟩ := h.c2
    exact Int.mul_pos (Int.mul_pos (lst_pos hp) (lst_pos hq)) (lst_pos hr)
  · obtain ⟨p, q, r, t, rfl, hp, hq, hr, ht⟩ := h.c3
    exact Int.mul_pos (Int.mul_pos (Int.mul_pos (lst_pos hp) (lst_pos hq)) (lst_pos hr)) (lst_pos ht)
theorem mv_qv {d k l : Nat} {w : Int} (hw : Way w) {a : List Int} {s : List (List Int)} (h : Pts d k s) (ha : Pt d l a) : Qv (s.map (mvS w a)) s := by
  have fa := ha.raw
  rcases h.dim with rfl | rfl
  · obtain ⟨p, q, r, rfl, hp, hq, hr⟩ := h.c2
    have pp := raw_lst (raw_ng hp.raw)
    have base : ∀ x y z : List Int, Raw 2 x → Raw 2 y → Raw 2 z → Qv [addS x a, addS y a, addS z a] [x, y, z] := fun x y z hx hy hz =>
      qv_trans (l2p (raw_add hx fa) (raw_add hy fa) (raw_add hz fa)) (qv_symm (qv_low2 (raw_add hx fa) (raw_add hy fa) (raw_add hz fa))) (qv_add2 hx hy hz fa)
    rcases hw with rfl | rfl
    · simp only [List.map_cons, List.map_nil, mvS_1]
      exact base _ _ _ hp.raw hq.raw hr.raw
    · simp only [List.map_cons, List.map_nil, mvS_m]
      rw [addS_comm ha.raw (raw_ng hp.raw), addS_comm ha.raw (raw_ng hq.raw), addS_comm ha.raw (raw_ng hr.raw)]
      exact qv_trans (l2p (raw_ng hp.raw) (raw_ng hq.raw) (raw_ng hr.raw)) (base _ _ _ (raw_ng hp.raw) (raw_ng hq.raw) (raw_ng hr.raw)) (qv_ng2 hp.raw hq.raw hr.raw)
  · obtain ⟨p, q, r, t, rfl, hp, hq, hr, ht⟩ := h.c3
    have base : ∀ x y z u : List Int, Raw 3 x → Raw 3 y → Raw 3 z → Raw 3 u → Qv [addS x a, addS y a, addS z a, addS u a] [x, y, z, u] := fun x y z u hx hy hz hu =>
      qv_trans (l3p (raw_add hx fa) (raw_add hy fa) (raw_add hz fa) (raw_add hu fa)) (qv_symm (qv_low3 (raw_add hx fa) (raw_add hy fa) (raw_add hz fa) (raw_add hu fa))) (qv_add3 hx hy hz hu fa)
    rcases hw with rfl | rfl
    · simp only [List.map_cons, List.map_nil, mvS_1]
      exact base _ _ _ _ hp.raw hq.raw hr.raw ht.raw
    · simp only [List.map_cons, List.map_nil, mvS_m]
      rw [addS_comm ha.raw (raw_ng hp.raw), addS_comm ha.raw (raw_ng hq.raw), addS_comm ha.raw (raw_ng hr.raw), addS_comm ha.raw (raw_ng ht.raw)]
      exact qv_trans (l3p (raw_ng hp.raw) (raw_ng hq.raw) (raw_ng hr.raw) (raw_ng ht.raw)) (base _ _ _ _ (raw_ng hp.raw) (raw_ng hq.raw) (raw_ng hr.raw) (raw_ng ht.raw)) (qv_ng3 hp.raw hq.raw hr.raw ht.raw)
def prodL (s : List (List Int)) : Int := s.foldr (fun p z => lst p * z) 1
theorem prodL_perm {s t : List (List Int)} (h : s.Perm t) : prodL s = prodL t := by
  induction h with
  | nil => rfl
  | cons x _ ih => simp only [prodL, List.foldr_cons] at ih ⊢; rw [ih]
  | swap x y l => simp only [prodL, List.foldr_cons]; grind
  | trans _ _ ih1 ih2 => exact ih1.trans ih2
theorem lstp_prod {d k : Nat} {s : List (List Int)} (h : Pts d k s) : lstp s = prodL s := by
  rcases h.dim with rfl | rfl
  · obtain ⟨p, q, r, rfl, hp, hq, hr⟩ := h.c2
    simp only [lstp, prodL, List.foldr_cons, List.foldr_nil]
    grind
  · obtain ⟨p, q, r, t, rfl, hp, hq, hr, ht⟩ := h.c3
    simp only [lstp, prodL, List.foldr_cons, List.foldr_nil]
    grind
theorem sizS_mv {d k l : Nat} {w : Int} (hw : Way w) {a : List Int} {s : List (List Int)} (h : Smp d k s) (ha : Pt d l a) : sizS (mvC w a s) = sizS s := by
  have P := mv_pts (w := w) h.pts ha
  have S := h.mv hw ha
  have q := mv_qv hw h.pts ha
  have e1 : hdt (mvC w a s) = ((hdt (s.map (mvS w a))).natAbs : Int) := hdt_smp P
  have e2 : lstp (mvC w a s) = lstp (s.map (mvS w a)) := by rw [lstp_prod S.pts, lstp_prod P]; exact prodL_perm (smpS_perm _)
  have e3 : shr (mvC w a s) = shr s := by unfold shr; rw [S.pts.len, h.pts.len]
  have e4 : ((hdt s).natAbs : Int) = hdt s := by have := h.pos; omega
  unfold sizS frL
  rw [e1, e2, e3]
  unfold Qv at q
  rw [e4] at q
  rw [fr_eq (t := ((hdt (s.map (mvS w a))).natAbs : Int)) (b := lstp (s.map (mvS w a)) * shr s) (t' := hdt s) (b' := lstp s * shr s) (Int.mul_pos (lstp_pos P) (shr_pos s)) (Int.mul_pos (lstp_pos h.pts) (shr_pos s)) (by
    generalize ((hdt (s.map (mvS w a))).natAbs : Int) = x at *
    generalize lstp (s.map (mvS w a)) = y at *
    grind)]
theorem szT_mv {d k l : Nat} {w : Int} (hw : Way w) {a : List Int} (ha : Pt d l a) : ∀ {h : List (List (List Int))} {t : List Int}, (∀ s ∈ h, Smp d k s) → szT t (h.map (mvC w a)) = szT t h
  | [], t, _ => rfl
  | s :: h, t, hh => by
    rw [List.map_cons, szT_cons, szT_cons, sizS_mv hw (hh s List.mem_cons_self) ha]
    exact szT_mv hw ha fun x hx => hh x (List.mem_cons_of_mem _ hx)
end Mi

/-! MiY: where a point lies in a simplex. -/
namespace Mi
open PySem
/-- -1 where one is below nought, else 0 where one is nought, else 1 -/
def plc (zs : List Int) : Int := if zs.any (fun z => decide (z < 0)) then -1 else if zs.any (fun z => decide (z = 0)) then 0 else 1
/-- the corners, each in its turn exchanged for P -/
def excL (s : List (List Int)) (P : List Int) : List (List (List Int)) := match s with
  | [p, q, r] => [[P, q, r], [p, P, r], [p, q, P]]
  | [p, q, r, t] => [[P, q, r, t], [p, P, r, t], [p, q, P, t], [p, q, r, P]]
  | _ => []
/-- 1 within, 0 on the border, -1 outside -/
def plS (s : List (List Int)) (P : List Int) : Int := plc ((excL s P).map sdS)
theorem any_perm {zs ws : List Int} (f : Int → Bool) (h : zs.Perm ws) : zs.any f = ws.any f := by
  induction h with
  | nil => rfl
  | cons x _ ih => simp only [List.any_cons, ih]
  | swap x y l => simp only [List.any_cons]; cases f x <;> cases f y <;> rfl
  | trans _ _ ih1 ih2 => exact ih1.trans ih2
theorem plc_perm {zs ws : List Int} (h : zs.Perm ws) : plc zs = plc ws := by
  unfold plc
  rw [any_perm _ h, any_perm _ h]
theorem plc_sgn {α : Type} {f g : α → Int} {xs : List α} (h : ∀ x ∈ xs, (f x < 0 ↔ g x < 0) ∧ (f x = 0 ↔ g x = 0)) : plc (xs.map f) = plc (xs.map g) := by
  have e1 : (xs.map f).any (fun z => decide (z < 0)) = (xs.map g).any (fun z => decide (z < 0)) := by
    induction xs with
    | nil => rfl
    | cons x xs ih =>
      simp only [List.map_cons, List.any_cons]
      rw [ih fun y hy => h y (List.mem_cons_of_mem _ hy)]
      congr 1
      exact decide_eq_decide.mpr (h x List.mem_cons_self).1
  have e2 : (xs.map f).any (fun z => decide (z = 0)) = (xs.map g).any (fun z => decide (z = 0)) := by
    clear e1
    induction xs with
    | nil => rfl
    | cons x xs ih =>
      simp only [List.map_cons, List.any_cons]
      rw [ih fun y hy => h y (List.mem_cons_of_mem _ hy)]
      congr 1
      exact decide_eq_decide.mpr (h x List.mem_cons_self).2
  unfold plc
  rw [e1, e2]
theorem sd_neg {ps qs : List (List Int)} (h : hdt ps = -hdt qs) : sdS ps = -sdS qs := by
  unfold sdS
  rw [h, rk_neg]
theorem sd_eq {ps qs : List (List Int)} (h : hdt ps = hdt qs) : sdS ps = sdS qs := by
  unfold sdS
  rw [h]
section
variable {p q r t P : List Int}
theorem wall2 (hp : Raw 2 p) (hq : Raw 2 q) (hr : Raw 2 r) (hP : Raw 2 P) : sdS [q, r, P] = sdS [P, q, r] ∧ sdS [r, p, P] = sdS [p, P, r] := by
  obtain ⟨a, b, w, rfl, _⟩ := raw2_inv hp
  obtain ⟨c, d, v, rfl, _⟩ := raw2_inv hq
  obtain ⟨e, g, u, rfl, _⟩ := raw2_inv hr
  obtain ⟨k, l, m, rfl, _⟩ := raw2_inv hP
  constructor <;> (refine sd_eq ?_; simp only [hdt]; grind)
theorem wall3 (hp : Raw 3 p) (hq : Raw 3 q) (hr : Raw 3 r) (ht : Raw 3 t) (hP : Raw 3 P) : sdS [p, r, q, P] = -sdS [p, q, r, P] ∧ sdS [p, q, t, P] = -sdS [p, q, P, t] ∧ sdS [q, r, t, P] = -sdS [P, q, r, t] ∧ sdS [p, t, r, P] = -sdS [p, P, r, t] := by
  obtain ⟨x0, y0, z0, w0, rfl, _⟩ := raw3_inv hp
  obtain ⟨x1, y1, z1, w1, rfl, _⟩ := raw3_inv hq
  obtain ⟨x2, y2, z2, w2, rfl, _⟩ := raw3_inv hr
  obtain ⟨x3, y3, z3, w3, rfl, _⟩ := raw3_inv ht
  obtain ⟨k, l, m, n, rfl, _⟩ := raw3_inv hP
  refine ⟨?_, ?_, ?_, ?_⟩ <;> (refine sd_neg ?_; simp only [hdt]; grind)
end
theorem plc_or (zs : List Int) : plc zs = -1 ∨ plc zs = 0 ∨ plc zs = 1 := by
  unfold plc
  split
  · exact .inl rfl
  · split
    · exact .inr (.inl rfl)
    · exact .inr (.inr rfl)
/-- a heap's count, none on a border -/
def cntS (h : List (List (List Int))) (P : List Int) : Option Int := h.foldl (fun c s => match c with
  | some n => if plS s P = 0 then none else some (if plS s P = 1 then n + 1 else n)
  | none => none) (some 0)
theorem sd_sgnY (c : List (List Int)) : (sdS c < 0 ↔ hdt c < 0) ∧ (sdS c = 0 ↔ hdt c = 0) := by
  refine ⟨?_, ?_⟩
  · unfold sdS rk
    split
    · constructor <;> intro h <;> omega
    · split <;> constructor <;> intro h <;> omega
  · exact sd_zero c
theorem isin_Li (a : Int) (p : List Int) : cmpD .isin (.int a) (Li p) = some (p.any fun z => decide (z = a)) := by
  have h1 : SeqAt.shaped (.int a) = true := nice_int.shaped (by decide) a
  have h2 : SeqAt.shaped (Li p) = true := nice_Li.shaped (by decide) p
  show (if (SeqAt.shaped (.int a) && SeqAt.shaped (Li p)) = true then some ((p.map PyData.int).any fun z => PyData.eqv z (.int a)) else none) = _
  rw [h1, h2, Bool.true_and, if_pos rfl, List.any_map]
  first
    | done
    | rfl
theorem count_Li (a : Int) (p : List Int) : mthO .count (Li p) [.int a] = some (.int (p.count a : Nat), Li p) := by
  show (mthD .count (p.map .int) [.int a]).map (fun q => (q.1, PyData.list q.2)) = _
  simp [mthD, intsOf_map, Li]
/-! steps of a loop, told apart from what the body is -/
section
variable {t : Tg} {body : Sl → R Fl} {d : D} {ds : List D} {s s1 s2 : Sl}
theorem forGo_step (h1 : bindD t d s = some s1) (h2 : body s1 = .ok .nx s2) : forGo t body (d :: ds) s = forGo t body ds s2 := by rw [forGo, h1]; simp only [h2]
theorem forGo_ct (h1 : bindD t d s = some s1) (h2 : body s1 = .ok .ct s2) : forGo t body (d :: ds) s = forGo t body ds s2 := by rw [forGo, h1]; simp only [h2]
theorem forGo_rt {w : Bool} {v : D} (h1 : bindD t d s = some s1) (h2 : body s1 = .ok (.rt w v) s2) : forGo t body (d :: ds) s = .ok (.rt w v) s2 := by rw [forGo, h1]; simp only [h2]
theorem forGo_bk (h1 : bindD t d s = some s1) (h2 : body s1 = .ok .bk s2) : forGo t body (d :: ds) s = .ok .nx s2 := by rw [forGo, h1]; simp only [h2]
theorem forGo_ex {c : Nat} {as : List D} (h1 : bindD t d s = some s1) (h2 : body s1 = .ex c as s2) : forGo t body (d :: ds) s = .ex c as s2 := by rw [forGo, h1]; simp only [h2]
theorem for_nx {Φ : Env} {n : Nat} {it : It} {b : Ss} {s s1 s2 : Sl} {ds : List D} (h1 : evIt Φ it s = .ok ds s1) (h2 : forGo t (fun s => runs Φ n b s) ds s1 = .ok .nx s2) : run Φ n (.for_ t it b) s = .ok .nx s2 := by
  rw [run, h1]; simp only [h2]
theorem for_rt {Φ : Env} {n : Nat} {it : It} {b : Ss} {s s1 s2 : Sl} {ds : List D} {w : Bool} {v : D} (h1 : evIt Φ it s = .ok ds s1) (h2 : forGo t (fun s => runs Φ n b s) ds s1 = .ok (.rt w v) s2) : run Φ n (.for_ t it b) s = .ok (.rt w v) s2 := by
  rw [run, h1]; simp only [h2]
theorem for_ex {Φ : Env} {n : Nat} {it : It} {b : Ss} {s s1 s2 : Sl} {ds : List D} {c : Nat} {as : List D} (h1 : evIt Φ it s = .ok ds s1) (h2 : forGo t (fun s => runs Φ n b s) ds s1 = .ex c as s2) : run Φ n (.for_ t it b) s = .ex c as s2 := by
  rw [run, h1]; simp only [h2]
end
/-! one statement's step, by itself (else the kernel runs the suite's rest where all steps are by rfl) -/
theorem st_nx {Φ : Env} {n : Nat} {F ss : Ss} {st : S} {s s1 : Sl} (hF : F = .cons st ss) (h : run Φ n st s = .ok .nx s1) : runs Φ n F s = runs Φ n ss s1 := by subst hF; exact runs_nx h
theorem st_rt {Φ : Env} {n : Nat} {F ss : Ss} {st : S} {s s1 : Sl} {w : Bool} {v : D} (hF : F = .cons st ss) (h : run Φ n st s = .ok (.rt w v) s1) : runs Φ n F s = .ok (.rt w v) s1 := by subst hF; exact runs_rt h
theorem eqB_bb (a b : Bool) : eqB (.bool a) (.bool b) = some (a == b) := by cases a <;> cases b <;> rfl
end Mi

/-! MiB: blades: a line by two points, a plane by three. -/
namespace Mi
open PySem
def bldO : List Int → List Int → List Int
  | [x, y, z], [a, b, c, w] => [x * w, y * w, z * w, -(x * a + y * b + z * c)]
  | _, _ => []
/-- the numbers of the line or plane -/
def bldN : List (List Int) → List Int
  | [p, q] => crs p q
  | [p, q, r] => bldO (crs (arwP p q) (arwP p r)) p
  | _ => []
/-- all but the last are nought -/
def nil0 (n : List Int) : Bool := n.dropLast.all fun z => decide (z = 0)
/-- as many points as measures -/
structure Bls (d k : Nat) (ps : List (List Int)) : Prop where
  len : ps.length = d
  all : ∀ p ∈ ps, Pt d k p
  dim : d = 2 ∨ d = 3
theorem Bls.le {d k l : Nat} {ps : List (List Int)} (h : Bls d k ps) (hl : k ≤ l) : Bls d l ps := ⟨h.len, fun p hp => (h.all p hp).le hl, h.dim⟩
theorem Bls.c2 {k : Nat} {ps : List (List Int)} (h : Bls 2 k ps) : ∃ p q, ps = [p, q] ∧ Pt 2 k p ∧ Pt 2 k q := by
  obtain ⟨l, a, _⟩ := h
  match ps, l with
  | [p, q], _ => exact ⟨p, q, rfl, a p (by simp), a q (by simp)⟩
theorem Bls.c3 {k : Nat} {ps : List (List Int)} (h : Bls 3 k ps) : ∃ p q r, ps = [p, q, r] ∧ Pt 3 k p ∧ Pt 3 k q ∧ Pt 3 k r := by
  obtain ⟨l, a, _⟩ := h
  match ps, l with
  | [p, q, r], _ => exact ⟨p, q, r, rfl, a p (by simp), a q (by simp), a r (by simp)⟩
theorem bls2 {k : Nat} {p q : List Int} (hp : Pt 2 k p) (hq : Pt 2 k q) : Bls 2 k [p, q] := ⟨rfl, fun x hx => by
  simp only [List.mem_cons, List.not_mem_nil, or_false] at hx
  rcases hx with rfl | rfl <;> assumption, .inl rfl⟩
theorem bls3 {k : Nat} {p q r : List Int} (hp : Pt 3 k p) (hq : Pt 3 k q) (hr : Pt 3 k r) : Bls 3 k [p, q, r] := ⟨rfl, fun x hx => by
  simp only [List.mem_cons, List.not_mem_nil, or_false] at hx
  rcases hx with rfl | rfl | rfl <;> assumption, .inr rfl⟩
theorem bldO_bd {k l : Nat} {x y z a b c w : Int} (h : BdL k [x, y, z]) (hp : BdL l [a, b, c, w]) : BdL (k + l + 2) (bldO [x, y, z] [a, b, c, w]) := by
  have m : ∀ {u v : Int}, u ∈ [x, y, z] → v ∈ [a, b, c, w] → Bd (k + l) (u * v) := fun hu hv => (h _ hu).mul (hp _ hv)
  refine bdl_cons ((m (by simp) (by simp)).le (by omega)) (bdl_cons ((m (by simp) (by simp)).le (by omega)) (bdl_cons ((m (by simp) (by simp)).le (by omega)) (bdl_cons ?_ bdl_nil)))
  have h1 := m (u := x) (v := a) (by simp) (by simp)
  have h2 := m (u := y) (v := b) (by simp) (by simp)
  have h3 := m (u := z) (v := c) (by simp) (by simp)
  exact (((h1.add h2).add h3).neg).le (by omega)
theorem bldN_bd {d k : Nat} {ps : List (List Int)} (h : Bls d k ps) : BdL (5 * k + 5) (bldN ps) := by
  rcases h.dim with rfl | rfl
  · obtain ⟨p, q, rfl, hp, hq⟩ := h.c2
    obtain ⟨a, b, w, rfl, _⟩ := hp.c2
    obtain ⟨c, e, v, rfl, _⟩ := hq.c2
    exact fun x hx => (crs_bd hp.bd hq.bd x hx).le (by omega)
  · obtain ⟨p, q, r, rfl, hp, hq, hr⟩ := h.c3
    have b1 := arwP_bd hp.raw hq.raw hp.bd hq.bd
    have b2 := arwP_bd hp.raw hr.raw hp.bd hr.bd
    obtain ⟨a, b, c, w, rfl, _⟩ := hp.c3
    obtain ⟨a1, b1', c1, w1, rfl, _⟩ := hq.c3
    obtain ⟨a2, b2', c2, w2, rfl, _⟩ := hr.c3
    exact fun x hx => (bldO_bd (crs_bd b1 b2) hp.bd x hx).le (by omega)
theorem bldN_len {d k : Nat} {ps : List (List Int)} (h : Bls d k ps) : (bldN ps).length = d + 1 := by
  rcases h.dim with rfl | rfl
  · obtain ⟨p, q, rfl, hp, hq⟩ := h.c2
    obtain ⟨a, b, w, rfl, _⟩ := hp.c2
    obtain ⟨c, e, v, rfl, _⟩ := hq.c2
    rfl
  · obtain ⟨p, q, r, rfl, hp, hq, hr⟩ := h.c3
    obtain ⟨a, b, c, w, rfl, _⟩ := hp.c3
    obtain ⟨a1, b1', c1, w1, rfl, _⟩ := hq.c3
    obtain ⟨a2, b2', c2, w2, rfl, _⟩ := hr.c3
    rfl
/-- the last one is nought, too -/
theorem bldN_zero {d k : Nat} {ps : List (List Int)} (h : Bls d k ps) (z : nil0 (bldN ps) = true) : bldN ps = List.replicate (d + 1) 0 := by
  rcases h.dim with rfl | rfl
  · obtain ⟨p, q, rfl, hp, hq⟩ := h.c2
    obtain ⟨a, b, w, rfl, hw, _⟩ := hp.c2
    obtain ⟨c, e, v, rfl, hv, _⟩ := hq.c2
    simp only [nil0, bldN, crs, List.dropLast_cons₂, List.dropLast_singleton, List.all_cons, List.all_nil, Bool.and_eq_true, decide_eq_true_eq, Bool.and_true] at z ⊢
    obtain ⟨z1, z2⟩ := z
    have z3 : w * (a * e - b * c) = 0 := by grind
    have z4 : a * e - b * c = 0 := by
      rcases Int.mul_eq_zero.mp z3 with q | q
      · omega
      · exact q
    rw [z1, z2, z4]
    rfl
  · obtain ⟨p, q, r, rfl, hp, hq, hr⟩ := h.c3
    obtain ⟨a, b, c, w, rfl, hw, _⟩ := hp.c3
    obtain ⟨a1, b1', c1, w1, rfl, _⟩ := hq.c3
    obtain ⟨a2, b2', c2, w2, rfl, _⟩ := hr.c3
    simp only [bldN, arwP, crs]
    simp only [bldN, arwP, crs] at z
    generalize (b1' * w - b * w1) * (c2 * w - c * w2) - (c1 * w - c * w1) * (b2' * w - b * w2) = x at z ⊢
    generalize (c1 * w - c * w1) * (a2 * w - a * w2) - (a1 * w - a * w1) * (c2 * w - c * w2) = y at z ⊢
    generalize (a1 * w - a * w1) * (b2' * w - b * w2) - (b1' * w - b * w1) * (a2 * w - a * w2) = t at z ⊢
    simp only [nil0, bldO, List.dropLast_cons₂, List.dropLast_singleton, List.all_cons, List.all_nil, Bool.and_eq_true, decide_eq_true_eq, Bool.and_true] at z ⊢
    obtain ⟨z1, z2, z3⟩ := z
    have k : ∀ {u : Int}, u * w = 0 → u = 0 := fun hu => by
      rcases Int.mul_eq_zero.mp hu with q | q
      · exact q
      · omega
    rw [k z1, k z2, k z3]
    simp [List.replicate]
theorem bldN_ne {d k : Nat} {ps : List (List Int)} (h : Bls d k ps) (z : nil0 (bldN ps) = false) : gcdL 0 (bldN ps) ≠ 0 := by
  obtain ⟨x, hx, h0⟩ : ∃ x ∈ bldN ps, x ≠ 0 := by
    unfold nil0 at z
    rw [List.all_eq_false] at z
    obtain ⟨x, hx, h0⟩ := z
    exact ⟨x, (List.dropLast_sublist _).subset hx, by simpa using h0⟩
  exact gcdL_ne hx h0
theorem bldN_okL {d k : Nat} {ps : List (List Int)} (h : Bls d k ps) (hk : k < 1000) (z : nil0 (bldN ps) = false) : okL (bldN ps) := by
  obtain ⟨x, hx, h0⟩ : ∃ x ∈ bldN ps, x ≠ 0 := by
    unfold nil0 at z
    rw [List.all_eq_false] at z
    obtain ⟨x, hx, h0⟩ := z
    exact ⟨x, (List.dropLast_sublist _).subset hx, by simpa using h0⟩
  have hl := bldN_len h
  have hd := h.dim
  exact okL_of (bldN_bd h) hx h0 (by omega) (by omega)
theorem div_zero_iff {x : Int} {g : Nat} (hg : g ≠ 0) (h : (g : Int) ∣ x) : x / (g : Int) = 0 ↔ x = 0 := by
  obtain ⟨c, rfl⟩ := h
  have g0 : (g : Int) ≠ 0 := by omega
  rw [Int.mul_ediv_cancel_left c g0]
  constructor
  · rintro rfl
    exact Int.mul_zero _
  · intro q
    rcases Int.mul_eq_zero.mp q with q | q
    · exact absurd q g0
    · exact q
theorem nil0_low {n : List Int} (hg : gcdL 0 n ≠ 0) : nil0 (lowL n) = nil0 n := by
  unfold nil0 lowL
  rw [← List.map_dropLast, List.all_map]
  have key : ∀ m : List Int, (∀ x ∈ m, x ∈ n) → m.all ((fun z => decide (z = 0)) ∘ fun n_1 => n_1 / (gcdL 0 n : Int)) = m.all fun z => decide (z = 0) := by
    intro m hm
    induction m with
    | nil => rfl
    | cons x m ih =>
      rw [List.all_cons, List.all_cons, ih fun y hy => hm y (List.mem_cons_of_mem _ hy)]
      congr 1
      exact decide_eq_decide.mpr (div_zero_iff hg ((gcdL_dvd n 0).2 x (hm x List.mem_cons_self)))
  exact key _ fun x hx => (List.dropLast_sublist _).subset hx
/-- the first two points exchanged -/
def swp2 : List (List Int) → List (List Int)
  | p :: q :: r => q :: p :: r
  | l => l
theorem Bls.sw {d k : Nat} {ps : List (List Int)} (h : Bls d k ps) : Bls d k (swp2 ps) := by
  rcases h.dim with rfl | rfl
  · obtain ⟨p, q, rfl, hp, hq⟩ := h.c2
    exact bls2 hq hp
  · obtain ⟨p, q, r, rfl, hp, hq, hr⟩ := h.c3
    exact bls3 hq hp hr
theorem bldN_sw {d k : Nat} {ps : List (List Int)} (h : Bls d k ps) (z : nil0 (bldN ps) = false) : lowL (bldN (swp2 ps)) = sc (-1) (lowL (bldN ps)) ∧ nil0 (bldN (swp2 ps)) = false := by
  have g0 := bldN_ne h z
  obtain ⟨k1, k2, h1, h2, e⟩ : ∃ k1 k2 : Int, 0 < k1 ∧ 0 < k2 ∧ sc k1 (bldN (swp2 ps)) = sc k2 (sc (-1) (bldN ps)) := by
    rcases h.dim with rfl | rfl
    · obtain ⟨p, q, rfl, hp, hq⟩ := h.c2
      obtain ⟨a, b, w, rfl, hw, _⟩ := hp.c2
      obtain ⟨c, e, v, rfl, hv, _⟩ := hq.c2
      refine ⟨1, 1, by decide, by decide, ?_⟩
      simp only [swp2, bldN, crs, sc, List.map_cons, List.map_nil]
      congr 1
      · grind
      · congr 1
        · grind
        · congr 1
          grind
    · obtain ⟨p, q, r, rfl, hp, hq, hr⟩ := h.c3
      obtain ⟨a, b, c, w, rfl, hw, _⟩ := hp.c3
      obtain ⟨a1, b1, c1, w1, rfl, hw1, _⟩ := hq.c3
      obtain ⟨a2, b2, c2, w2, rfl, _⟩ := hr.c3
      refine ⟨w * w, w1 * w1, Int.mul_pos hw hw, Int.mul_pos hw1 hw1, ?_⟩
      simp only [swp2, bldN, arwP, crs, bldO, sc, List.map_cons, List.map_nil]
      congr 1
      · grind
      · congr 1
        · grind
        · congr 1
          · grind
          · congr 1
            grind
  have ge : gcdL 0 (sc (-1) (bldN ps)) ≠ 0 := by
    rw [gcdL_sc]
    simpa using g0
  have gs : gcdL 0 (bldN (swp2 ps)) ≠ 0 := by
    have := congrArg (gcdL 0) e
    rw [gcdL_sc, gcdL_sc] at this
    intro q
    rw [q, Nat.zero_mul] at this
    have h3 : gcdL 0 (sc (-1) (bldN ps)) * k2.natAbs ≠ 0 := Nat.mul_ne_zero ge (by omega)
    exact h3 this.symm
  have el := low_eq h1 h2 gs ge e
  rw [low_neg] at el
  refine ⟨el, ?_⟩
  have n1 := nil0_low gs
  have n2 := nil0_low g0
  rw [el] at n1
  have n3 : nil0 (sc (-1) (lowL (bldN ps))) = nil0 (lowL (bldN ps)) := by
    unfold nil0 sc
    rw [← List.map_dropLast, List.all_map]
    congr 1
    funext x
    show decide (x * -1 = 0) = decide (x = 0)
    exact decide_eq_decide.mpr (by omega)
  rw [← n1, n3, n2, z]
theorem sw_sw (ps : List (List Int)) : swp2 (swp2 ps) = ps := by
  match ps with
  | [] => rfl
  | [_] => rfl
  | _ :: _ :: _ => rfl
/-- above nought in front -/
theorem hgt_pos {d k l : Nat} {ps : List (List Int)} {P : List Int} (h : Bls d k ps) (hP : Pt d l P) : ∃ c : Int, 0 < c ∧ dt3 (bldN ps) P = c * hdt (ps ++ [P]) := by
  rcases h.dim with rfl | rfl
  · obtain ⟨p, q, rfl, hp, hq⟩ := h.c2
    obtain ⟨a, b, w, rfl, hw, _⟩ := hp.c2
    obtain ⟨c, e, v, rfl, hv, _⟩ := hq.c2
    obtain ⟨x, y, u, rfl, hu, _⟩ := hP.c2
    refine ⟨1, by decide, ?_⟩
    simp only [bldN, crs, dt3, List.cons_append, List.nil_append, hdt]
    grind
  · obtain ⟨p, q, r, rfl, hp, hq, hr⟩ := h.c3
    obtain ⟨a, b, c, w, rfl, hw, _⟩ := hp.c3
    obtain ⟨a1, b1, c1, w1, rfl, hw1, _⟩ := hq.c3
    obtain ⟨a2, b2, c2, w2, rfl, _⟩ := hr.c3
    obtain ⟨x, y, t, u, rfl, hu, _⟩ := hP.c3
    refine ⟨w * w, Int.mul_pos hw hw, ?_⟩
    simp only [bldN, arwP, crs, bldO, dt3, List.cons_append, List.nil_append, hdt]
    grind
theorem dt3_sc {d k : Nat} {n P : List Int} {g : Int} (hn : n.length = d + 1) (hd : d = 2 ∨ d = 3) (hP : Pt d k P) : dt3 (sc g n) P = g * dt3 n P := by
  rcases hd with rfl | rfl
  · obtain ⟨x, y, u, rfl, hu, _⟩ := hP.c2
    match n, hn with
    | [a, b, c], _ =>
      simp only [sc, List.map_cons, List.map_nil, dt3]
      grind
  · obtain ⟨x, y, t, u, rfl, hu, _⟩ := hP.c3
    match n, hn with
    | [a, b, c, e], _ =>
      simp only [sc, List.map_cons, List.map_nil, dt3]
      grind
theorem sgn_pos {c z : Int} (hc : 0 < c) : (0 < c * z ↔ 0 < z) ∧ (c * z < 0 ↔ z < 0) := by
  rcases Int.lt_trichotomy z 0 with h | h | h
  · have := Int.mul_neg_of_pos_of_neg hc h
    constructor <;> constructor <;> intro q <;> omega
  · subst h
    rw [Int.mul_zero]
    exact ⟨Iff.rfl, Iff.rfl⟩
  · have := Int.mul_pos hc h
    constructor <;> constructor <;> intro q <;> omega
theorem hgt_sgn {d k l : Nat} {ps : List (List Int)} {P : List Int} (h : Bls d k ps) (hP : Pt d l P) (z : nil0 (bldN ps) = false) :
    (0 < dt3 (lowL (bldN ps)) P ↔ 0 < hdt (ps ++ [P])) ∧ (dt3 (lowL (bldN ps)) P < 0 ↔ hdt (ps ++ [P]) < 0) := by
  obtain ⟨c, hc, e⟩ := hgt_pos h hP
  have g0 := bldN_ne h z
  have hg : (0 : Int) < gcdL 0 (bldN ps) := by omega
  have ln := bldN_len h
  have e2 := dt3_sc (g := (gcdL 0 (bldN ps) : Int)) (n := lowL (bldN ps)) (by rw [low_length]; exact ln) h.dim hP
  rw [low_sc, e] at e2
  have s1 := sgn_pos (z := hdt (ps ++ [P])) hc
  have s2 := sgn_pos (z := dt3 (lowL (bldN ps)) P) hg
  rw [e2] at s1
  exact ⟨s2.1.symm.trans s1.1, s2.2.symm.trans s1.2⟩
theorem Bls.snoc {d k : Nat} {ps : List (List Int)} {P : List Int} (h : Bls d k ps) (hP : Pt d k P) : Pts d k (ps ++ [P]) := ⟨by rw [List.length_append, h.len]; rfl, fun x hx => by
  rcases List.mem_append.mp hx with hx | hx
  · exact h.all x hx
  · rw [List.mem_singleton.mp hx]; exact hP, h.dim⟩
end Mi

/-! MiC: where a point lies in a prism, in a pyramid. -/
namespace Mi
open PySem
theorem rk_1 {z : Int} (h : 0 < z) : rk z = 1 := by
  unfold rk
  rw [if_pos h, if_neg (by omega)]
  rfl
theorem rk_0 : rk 0 = 0 := by decide
theorem rk_m {z : Int} (h : z < 0) : rk z = -1 := by
  unfold rk
  rw [if_neg (by omega), if_pos h]
  rfl
theorem rk_mul (a b : Int) : rk (a * b) = rk a * rk b := by
  rcases Int.lt_trichotomy a 0 with h | h | h
  · rcases Int.lt_trichotomy b 0 with g | g | g
    · rw [rk_m h, rk_m g, rk_1 (Int.mul_pos_of_neg_of_neg h g)]; rfl
    · subst g; rw [Int.mul_zero, rk_0, Int.mul_zero]
    · rw [rk_m h, rk_1 g, rk_m (Int.mul_neg_of_neg_of_pos h g)]; rfl
  · subst h; rw [Int.zero_mul, rk_0, Int.zero_mul]
  · rcases Int.lt_trichotomy b 0 with g | g | g
    · rw [rk_1 h, rk_m g, rk_m (Int.mul_neg_of_pos_of_neg h g)]; rfl
    · subst g; rw [Int.mul_zero, rk_0, Int.mul_zero]
    · rw [rk_1 h, rk_1 g, rk_1 (Int.mul_pos h g)]; rfl
theorem rk_sgn (z : Int) : (rk z < 0 ↔ z < 0) ∧ (rk z = 0 ↔ z = 0) := by
  rcases Int.lt_trichotomy z 0 with h | h | h
  · rw [rk_m h]; constructor <;> constructor <;> intro q <;> omega
  · subst h; rw [rk_0]; exact ⟨Iff.rfl, Iff.rfl⟩
  · rw [rk_1 h]; constructor <;> constructor <;> intro q <;> omega
/-- where a point lies, whichever way the corners turn -/
def plG (l : List (List Int)) (Q : List Int) : Int := plc ((excL l Q).map fun c => sdS c * sdS l)
theorem plG_smp {d k : Nat} {s : List (List Int)} (h : Smp d k s) (Q : List Int) : plG s Q = plS s Q := by
  unfold plG plS
  have : sdS s = 1 := rk_1 h.pos
  congr 1
  refine List.map_congr_left fun c _ => ?_
  rw [this, Int.mul_one]
section
variable {p q r t Q : List Int}
theorem neg_neg_mul (a b : Int) : -a * -b = a * b := by rw [Int.neg_mul, Int.mul_neg, Int.neg_neg]
theorem plG_01 (hp : Raw 3 p) (hq : Raw 3 q) (hr : Raw 3 r) (ht : Raw 3 t) (hQ : Raw 3 Q) : plG [q, p, r, t] Q = plG [p, q, r, t] Q := by
  unfold plG
  simp only [excL, List.map_cons, List.map_nil]
  rw [sd_neg (hdt_sw3 hp hq hr ht).1, sd_neg (hdt_sw3 hp hQ hr ht).1, sd_neg (hdt_sw3 hQ hq hr ht).1, sd_neg (hdt_sw3 hp hq hQ ht).1, sd_neg (hdt_sw3 hp hq hr hQ).1, neg_neg_mul, neg_neg_mul, neg_neg_mul, neg_neg_mul]
  exact plc_perm (.swap _ _ _)
theorem plG_12 (hp : Raw 3 p) (hq : Raw 3 q) (hr : Raw 3 r) (ht : Raw 3 t) (hQ : Raw 3 Q) : plG [p, r, q, t] Q = plG [p, q, r, t] Q := by
  unfold plG
  simp only [excL, List.map_cons, List.map_nil]
  rw [sd_neg (hdt_sw3 hp hq hr ht).2.1, sd_neg (hdt_sw3 hQ hq hr ht).2.1, sd_neg (hdt_sw3 hp hq hQ ht).2.1, sd_neg (hdt_sw3 hp hQ hr ht).2.1, sd_neg (hdt_sw3 hp hq hr hQ).2.1, neg_neg_mul, neg_neg_mul, neg_neg_mul, neg_neg_mul]
  exact plc_perm ((List.Perm.swap _ _ _).cons _)
theorem plG_23 (hp : Raw 3 p) (hq : Raw 3 q) (hr : Raw 3 r) (ht : Raw 3 t) (hQ : Raw 3 Q) : plG [p, q, t, r] Q = plG [p, q, r, t] Q := by
  unfold plG
  simp only [excL, List.map_cons, List.map_nil]
  rw [sd_neg (hdt_sw3 hp hq hr ht).2.2, sd_neg (hdt_sw3 hQ hq hr ht).2.2, sd_neg (hdt_sw3 hp hQ hr ht).2.2, sd_neg (hdt_sw3 hp hq hr hQ).2.2, sd_neg (hdt_sw3 hp hq hQ ht).2.2, neg_neg_mul, neg_neg_mul, neg_neg_mul, neg_neg_mul]
  exact plc_perm (((List.Perm.swap _ _ _).cons _).cons _)
end
theorem plG_perm_pre {Q : List Int} (hQ : Raw 3 Q) {l m : List (List Int)} (e : l.Perm m) : ∀ A : List (List Int), (∀ x ∈ A ++ l, Raw 3 x) → (A ++ l).length = 4 → plG (A ++ l) Q = plG (A ++ m) Q := by
  induction e with
  | nil => intro A _ _; rfl
  | cons x e ih =>
    intro A h hl
    have h1 := ih (A ++ [x]) (by simpa using h) (by simpa using hl)
    simpa using h1
  | swap x y l =>
    intro A h hl
    match A, l, hl, h with
    | [], [c, d], _, h =>
      exact plG_01 (h x (by simp)) (h y (by simp)) (h c (by simp)) (h d (by simp)) hQ
    | [a], [d], _, h =>
      exact plG_12 (h a (by simp)) (h x (by simp)) (h y (by simp)) (h d (by simp)) hQ
    | [a, b], [], _, h =>
      exact plG_23 (h a (by simp)) (h b (by simp)) (h x (by simp)) (h y (by simp)) hQ
    | [], [], hl, _ => simp at hl
    | [], [_], hl, _ => simp at hl
    | [], _ :: _ :: _ :: _, hl, _ => simp at hl
    | [_], [], hl, _ => simp at hl
    | [_], _ :: _ :: _, hl, _ => simp at hl
    | [_, _], _ :: _, hl, _ => simp at hl
    | _ :: _ :: _ :: _, _, hl, _ => simp at hl; omega
  | trans e1 _ ih1 ih2 =>
    intro A h hl
    exact (ih1 A h hl).trans (ih2 A (fun x hx => h x (by
      rcases List.mem_append.mp hx with hx | hx
      · exact List.mem_append.mpr (.inl hx)
      · exact List.mem_append.mpr (.inr (e1.mem_iff.mpr hx)))) (by rw [List.length_append] at hl ⊢; rw [← e1.length_eq]; exact hl))
theorem plS_made {k l : Nat} {ps : List (List Int)} {Q : List Int} (h : Pts 3 k ps) (h0 : hdt ps ≠ 0) (hQ : Pt 3 l Q) : plS (smpS ps) Q = plG ps Q := by
  rw [← plG_smp (h.made h0)]
  exact plG_perm_pre hQ.raw (smpS_perm ps) [] (fun x hx => (h.smp.all x hx).raw) h.smp.len
/-- the signs are those of zs, with one sign more -/
theorem plc_by {l : List (List Int)} {Q : List Int} {g : Int} (hg : g ≠ 0) {zs : List Int} {D : Int} (hD : 0 < D) (hl : sdS l = rk (g * D)) (he : (excL l Q).map sdS = zs.map fun z => rk (g * z)) : plG l Q = plc zs := by
  have g2 : rk g * rk g = 1 := by
    rw [← rk_mul]
    rcases Int.lt_or_gt_of_ne hg with h | h
    · exact rk_1 (Int.mul_pos_of_neg_of_neg h h)
    · exact rk_1 (Int.mul_pos h h)
  have e : (excL l Q).map (fun c => sdS c * sdS l) = zs.map rk := by
    have : (excL l Q).map (fun c => sdS c * sdS l) = ((excL l Q).map sdS).map fun z => z * sdS l := by rw [List.map_map]; rfl
    rw [this, he, List.map_map]
    refine List.map_congr_left fun z _ => ?_
    show rk (g * z) * sdS l = rk z
    rw [hl, rk_mul, rk_mul, rk_1 hD, Int.mul_one]
    calc rk g * rk z * rk g = rk g * rk g * rk z := by rw [Int.mul_assoc, Int.mul_comm (rk z), ← Int.mul_assoc]
      _ = rk z := by rw [g2, Int.one_mul]
  unfold plG
  rw [e]
  have := plc_sgn (xs := zs) (f := rk) (g := id) fun z _ => rk_sgn z
  rw [List.map_id] at this
  exact this
theorem plc_1 (zs : List Int) : plc zs = 1 ↔ ∀ z ∈ zs, 0 < z := by
  unfold plc
  constructor
  · intro h
    split at h
    · cases h
    · rename_i n
      split at h
      · cases h
      · rename_i m
        intro z hz
        simp only [List.any_eq_true, decide_eq_true_eq, not_exists, not_and] at n m
        have h1 := n z hz
        have h2 := m z hz
        omega
  · intro h
    rw [if_neg, if_neg]
    · simp only [List.any_eq_true, decide_eq_true_eq, not_exists, not_and]
      intro z hz; have := h z hz; omega
    · simp only [List.any_eq_true, decide_eq_true_eq, not_exists, not_and]
      intro z hz; have := h z hz; omega
theorem plc_0 (zs : List Int) : plc zs = 0 ↔ (∀ z ∈ zs, 0 ≤ z) ∧ ∃ z ∈ zs, z = 0 := by
  unfold plc
  constructor
  · intro h
    split at h
    · cases h
    · rename_i n
      split at h
      · rename_i m
        simp only [List.any_eq_true, decide_eq_true_eq, not_exists, not_and] at n m
        exact ⟨fun z hz => by have := n z hz; omega, m⟩
      · cases h
  · rintro ⟨h1, h2⟩
    rw [if_neg, if_pos]
    · simpa only [List.any_eq_true, decide_eq_true_eq] using h2
    · simp only [List.any_eq_true, decide_eq_true_eq, not_exists, not_and]
      intro z hz; have := h1 z hz; omega
theorem all3 {P : Int → Prop} {a b c : Int} : (∀ z ∈ [a, b, c], P z) ↔ P a ∧ P b ∧ P c := by simp
theorem all4 {P : Int → Prop} {a b c e : Int} : (∀ z ∈ [a, b, c, e], P z) ↔ P a ∧ P b ∧ P c ∧ P e := by simp
theorem ex4 {P : Int → Prop} {a b c e : Int} : (∃ z ∈ [a, b, c, e], P z) ↔ P a ∨ P b ∨ P c ∨ P e := by simp
theorem ex3 {P : Int → Prop} {a b c : Int} : (∃ z ∈ [a, b, c], P z) ↔ P a ∨ P b ∨ P c := by simp
/-- the place on an arrow: so much of it -/
def shrA (s0 s1 : Int) : List Int → List Int
  | [x, y, z, w] => [s0 * x, s0 * y, s0 * z, s1 * w]
  | _ => []
theorem raw_shr {s0 s1 : Int} {a : List Int} (ha : Raw 3 a) (h : 0 < s1) : Raw 3 (shrA s0 s1 a) := by
  obtain ⟨x, y, z, w, rfl, hw⟩ := raw3_inv ha
  exact raw_3 (Int.mul_pos h hw)
section
variable {a p q r P : List Int} {s0 s1 : Int} (ha : Raw 3 a) (hp : Raw 2 p) (hq : Raw 2 q) (hr : Raw 2 r) (hP : Raw 2 P) (hs : 0 < s1)
/-- what a point of the plane weighs, times some -/
def wgt (s1 : Int) (p q r P : List Int) : Int × Int × Int := (s1 * lst p * hdt [P, q, r], s1 * lst q * hdt [p, P, r], s1 * lst r * hdt [p, q, P])
include hp hq hr hP in
theorem wgt_sum : (wgt s1 p q r P).1 + (wgt s1 p q r P).2.1 + (wgt s1 p q r P).2.2 = s1 * lst P * hdt [p, q, r] := by
  obtain ⟨x0, y0, w0, rfl, _⟩ := raw2_inv hp
  obtain ⟨x1, y1, w1, rfl, _⟩ := raw2_inv hq
  obtain ⟨x2, y2, w2, rfl, _⟩ := raw2_inv hr
  obtain ⟨x3, y3, w3, rfl, _⟩ := raw2_inv hP
  simp only [wgt, hdt, lst, List.getLastD_cons, List.getLastD_nil]
  grind
include ha hp hq hr hP hs
theorem ex_prs1 : (excL (prs1 a p q r) (addS (rsd P) (shrA s0 s1 a))).map sdS = ([(wgt s1 p q r P).1 - s0 * lst P * hdt [p, q, r], (wgt s1 p q r P).2.1, (wgt s1 p q r P).2.2, s0 * lst P * hdt [p, q, r]]).map fun z => rk (hgt a * z) := by
  have Rp := raw_rsd hp
  have Rq := raw_rsd hq
  have Rr := raw_rsd hr
  have RQ := raw_add (raw_rsd hP) (raw_shr (s0 := s0) ha hs)
  have Ru := raw_add Rp ha
  simp only [prs1, excL, addS, List.map_cons, List.map_nil]
  rw [(sd_low3 RQ Rq Rr (raw_low Ru)).1, (sd_low3 RQ Rq Rr Ru).2.2.2, (sd_low3 Rp RQ Rr (raw_low Ru)).2.1, (sd_low3 Rp RQ Rr Ru).2.2.2, (sd_low3 Rp Rq RQ (raw_low Ru)).2.2.1, (sd_low3 Rp Rq RQ Ru).2.2.2, (sd_low3 Rp Rq Rr RQ).2.2.2]
  have la := raw_lst ha
  have lp := raw_lst hp
  have lq := raw_lst hq
  have lr := raw_lst hr
  obtain ⟨x0, y0, w0, rfl, _⟩ := raw2_inv hp
  obtain ⟨x1, y1, w1, rfl, _⟩ := raw2_inv hq
  obtain ⟨x2, y2, w2, rfl, _⟩ := raw2_inv hr
  obtain ⟨x4, y4, w4, rfl, _⟩ := raw2_inv hP
  obtain ⟨x3, y3, z3, w3, rfl, _⟩ := raw3_inv ha
  simp only [lst, List.getLastD_cons, List.getLastD_nil] at la lp lq lr
  have e1 : sdS [addP (rsd [x4, y4, w4]) (shrA s0 s1 [x3, y3, z3, w3]), rsd [x1, y1, w1], rsd [x2, y2, w2], addP (rsd [x0, y0, w0]) [x3, y3, z3, w3]] = rk (hgt [x3, y3, z3, w3] * ((wgt s1 [x0, y0, w0] [x1, y1, w1] [x2, y2, w2] [x4, y4, w4]).1 - s0 * lst [x4, y4, w4] * hdt [[x0, y0, w0], [x1, y1, w1], [x2, y2, w2]])) := by
    refine rk_eqv (c := w3) la ?_
    simp only [rsd, shrA, addP, hdt, hgt, wgt, lst, List.getLastD_cons, List.getLastD_nil]
    grind
  have e2 : sdS [rsd [x0, y0, w0], addP (rsd [x4, y4, w4]) (shrA s0 s1 [x3, y3, z3, w3]), rsd [x2, y2, w2], addP (rsd [x0, y0, w0]) [x3, y3, z3, w3]] = rk (hgt [x3, y3, z3, w3] * (wgt s1 [x0, y0, w0] [x1, y1, w1] [x2, y2, w2] [x4, y4, w4]).2.1) := by
    have : hdt [rsd [x0, y0, w0], addP (rsd [x4, y4, w4]) (shrA s0 s1 [x3, y3, z3, w3]), rsd [x2, y2, w2], addP (rsd [x0, y0, w0]) [x3, y3, z3, w3]] = s1 * w3 * w0 * (hgt [x3, y3, z3, w3] * hdt [[x0, y0, w0], [x4, y4, w4], [x2, y2, w2]]) := by
      simp only [rsd, shrA, addP, hdt, hgt]
      grind
    have e' : hgt [x3, y3, z3, w3] * (wgt s1 [x0, y0, w0] [x1, y1, w1] [x2, y2, w2] [x4, y4, w4]).2.1 = s1 * w1 * (hgt [x3, y3, z3, w3] * hdt [[x0, y0, w0], [x4, y4, w4], [x2, y2, w2]]) := by
      simp only [wgt, lst, List.getLastD_cons, List.getLastD_nil]
      grind
    rw [rk_eqv (Int.mul_pos (Int.mul_pos hs la) lp) this, e', rk_pos (Int.mul_pos hs lq)]
  have e3 : sdS [rsd [x0, y0, w0], rsd [x1, y1, w1], addP (rsd [x4, y4, w4]) (shrA s0 s1 [x3, y3, z3, w3]), addP (rsd [x0, y0, w0]) [x3, y3, z3, w3]] = rk (hgt [x3, y3, z3, w3] * (wgt s1 [x0, y0, w0] [x1, y1, w1] [x2, y2, w2] [x4, y4, w4]).2.2) := by
    have : hdt [rsd [x0, y0, w0], rsd [x1, y1, w1], addP (rsd [x4, y4, w4]) (shrA s0 s1 [x3, y3, z3, w3]), addP (rsd [x0, y0, w0]) [x3, y3, z3, w3]] = s1 * w3 * w0 * (hgt [x3, y3, z3, w3] * hdt [[x0, y0, w0], [x1, y1, w1], [x4, y4, w4]]) := by
      simp only [rsd, shrA, addP, hdt, hgt]
      grind
    have e' : hgt [x3, y3, z3, w3] * (wgt s1 [x0, y0, w0] [x1, y1, w1] [x2, y2, w2] [x4, y4, w4]).2.2 = s1 * w2 * (hgt [x3, y3, z3, w3] * hdt [[x0, y0, w0], [x1, y1, w1], [x4, y4, w4]]) := by
      simp only [wgt, lst, List.getLastD_cons, List.getLastD_nil]
      grind
    rw [rk_eqv (Int.mul_pos (Int.mul_pos hs la) lp) this, e', rk_pos (Int.mul_pos hs lr)]
  have e4 : sdS [rsd [x0, y0, w0], rsd [x1, y1, w1], rsd [x2, y2, w2], addP (rsd [x4, y4, w4]) (shrA s0 s1 [x3, y3, z3, w3])] = rk (hgt [x3, y3, z3, w3] * (s0 * lst [x4, y4, w4] * hdt [[x0, y0, w0], [x1, y1, w1], [x2, y2, w2]])) := by
    refine rk_eqv (c := 1) (by decide) ?_
    simp only [rsd, shrA, addP, hdt, hgt, wgt, lst, List.getLastD_cons, List.getLastD_nil]
    grind
  rw [e1, e2, e3, e4]
theorem ex_prs2 : (excL (prs2 a p q r) (addS (rsd P) (shrA s0 s1 a))).map sdS = ([(wgt s1 p q r P).1 + (wgt s1 p q r P).2.1 - s0 * lst P * hdt [p, q, r], (wgt s1 p q r P).2.2, (wgt s1 p q r P).1, s0 * lst P * hdt [p, q, r] - (wgt s1 p q r P).1]).map fun z => rk (hgt a * z) := by
  have Rp := raw_rsd hp
  have Rq := raw_rsd hq
  have Rr := raw_rsd hr
  have RQ := raw_add (raw_rsd hP) (raw_shr (s0 := s0) ha hs)
  have Ru := raw_add Rp ha
  have Rv := raw_add Rq ha
  have Rw := raw_add Rr ha
  simp only [prs2, excL, addS, List.map_cons, List.map_nil]
  rw [(sd_low3 RQ Rr (raw_low Ru) (raw_low Rv)).1, (sd_low3 RQ Rr Ru (raw_low Rv)).2.2.1, (sd_low3 RQ Rr Ru Rv).2.2.2, (sd_low3 Rq RQ (raw_low Ru) (raw_low Rv)).2.1, (sd_low3 Rq RQ Ru (raw_low Rv)).2.2.1, (sd_low3 Rq RQ Ru Rv).2.2.2, (sd_low3 Rq Rr RQ (raw_low Rv)).2.2.1, (sd_low3 Rq Rr RQ Rv).2.2.2, (sd_low3 Rq Rr Ru (raw_low RQ)).2.2.1, (sd_low3 Rq Rr Ru RQ).2.2.2]
  have la := raw_lst ha
  have lp := raw_lst hp
  have lq := raw_lst hq
  have lr := raw_lst hr
  obtain ⟨x0, y0, w0, rfl, _⟩ := raw2_inv hp
  obtain ⟨x1, y1, w1, rfl, _⟩ := raw2_inv hq
  obtain ⟨x2, y2, w2, rfl, _⟩ := raw2_inv hr
  obtain ⟨x4, y4, w4, rfl, _⟩ := raw2_inv hP
  obtain ⟨x3, y3, z3, w3, rfl, _⟩ := raw3_inv ha
  simp only [lst, List.getLastD_cons, List.getLastD_nil] at la lp lq lr
  have e1 : sdS [addP (rsd [x4, y4, w4]) (shrA s0 s1 [x3, y3, z3, w3]), rsd [x2, y2, w2], addP (rsd [x0, y0, w0]) [x3, y3, z3, w3], addP (rsd [x1, y1, w1]) [x3, y3, z3, w3]] = rk (hgt [x3, y3, z3, w3] * ((wgt s1 [x0, y0, w0] [x1, y1, w1] [x2, y2, w2] [x4, y4, w4]).1 + (wgt s1 [x0, y0, w0] [x1, y1, w1] [x2, y2, w2] [x4, y4, w4]).2.1 - s0 * lst [x4, y4, w4] * hdt [[x0, y0, w0], [x1, y1, w1], [x2, y2, w2]])) := by
    refine rk_eqv (c := w3 * w3) (Int.mul_pos la la) ?_
    simp only [rsd, shrA, addP, hdt, hgt, wgt, lst, List.getLastD_cons, List.getLastD_nil]
    grind
  have e2 : sdS [rsd [x1, y1, w1], addP (rsd [x4, y4, w4]) (shrA s0 s1 [x3, y3, z3, w3]), addP (rsd [x0, y0, w0]) [x3, y3, z3, w3], addP (rsd [x1, y1, w1]) [x3, y3, z3, w3]] = rk (hgt [x3, y3, z3, w3] * (wgt s1 [x0, y0, w0] [x1, y1, w1] [x2, y2, w2] [x4, y4, w4]).2.2) := by
    have f1 : hdt [rsd [x1, y1, w1], addP (rsd [x4, y4, w4]) (shrA s0 s1 [x3, y3, z3, w3]), addP (rsd [x0, y0, w0]) [x3, y3, z3, w3], addP (rsd [x1, y1, w1]) [x3, y3, z3, w3]] = s1 * (w3 * w3) * w1 * (hgt [x3, y3, z3, w3] * hdt [[x0, y0, w0], [x1, y1, w1], [x4, y4, w4]]) := by
      simp only [rsd, shrA, addP, hdt, hgt]
      grind
    have f2 : hgt [x3, y3, z3, w3] * (wgt s1 [x0, y0, w0] [x1, y1, w1] [x2, y2, w2] [x4, y4, w4]).2.2 = s1 * w2 * (hgt [x3, y3, z3, w3] * hdt [[x0, y0, w0], [x1, y1, w1], [x4, y4, w4]]) := by
      simp only [wgt, lst, List.getLastD_cons, List.getLastD_nil]
      grind
    rw [rk_eqv (Int.mul_pos (Int.mul_pos hs (Int.mul_pos la la)) lq) f1, f2, rk_pos (Int.mul_pos hs lr)]
  have e3 : sdS [rsd [x1, y1, w1], rsd [x2, y2, w2], addP (rsd [x4, y4, w4]) (shrA s0 s1 [x3, y3, z3, w3]), addP (rsd [x1, y1, w1]) [x3, y3, z3, w3]] = rk (hgt [x3, y3, z3, w3] * (wgt s1 [x0, y0, w0] [x1, y1, w1] [x2, y2, w2] [x4, y4, w4]).1) := by
    have f1 : hdt [rsd [x1, y1, w1], rsd [x2, y2, w2], addP (rsd [x4, y4, w4]) (shrA s0 s1 [x3, y3, z3, w3]), addP (rsd [x1, y1, w1]) [x3, y3, z3, w3]] = s1 * w3 * w1 * (hgt [x3, y3, z3, w3] * hdt [[x4, y4, w4], [x1, y1, w1], [x2, y2, w2]]) := by
      simp only [rsd, shrA, addP, hdt, hgt]
      grind
    have f2 : hgt [x3, y3, z3, w3] * (wgt s1 [x0, y0, w0] [x1, y1, w1] [x2, y2, w2] [x4, y4, w4]).1 = s1 * w0 * (hgt [x3, y3, z3, w3] * hdt [[x4, y4, w4], [x1, y1, w1], [x2, y2, w2]]) := by
      simp only [wgt, lst, List.getLastD_cons, List.getLastD_nil]
      grind
    rw [rk_eqv (Int.mul_pos (Int.mul_pos hs la) lq) f1, f2, rk_pos (Int.mul_pos hs lp)]
  have e4 : sdS [rsd [x1, y1, w1], rsd [x2, y2, w2], addP (rsd [x0, y0, w0]) [x3, y3, z3, w3], addP (rsd [x4, y4, w4]) (shrA s0 s1 [x3, y3, z3, w3])] = rk (hgt [x3, y3, z3, w3] * (s0 * lst [x4, y4, w4] * hdt [[x0, y0, w0], [x1, y1, w1], [x2, y2, w2]] - (wgt s1 [x0, y0, w0] [x1, y1, w1] [x2, y2, w2] [x4, y4, w4]).1)) := by
    refine rk_eqv (c := w3) la ?_
    simp only [rsd, shrA, addP, hdt, hgt, wgt, lst, List.getLastD_cons, List.getLastD_nil]
    grind
  rw [e1, e2, e3, e4]
theorem ex_prs3 : (excL (prs3 a p q r) (addS (rsd P) (shrA s0 s1 a))).map sdS = ([s1 * lst P * hdt [p, q, r] - s0 * lst P * hdt [p, q, r], (wgt s1 p q r P).1, (wgt s1 p q r P).2.1, s0 * lst P * hdt [p, q, r] - (wgt s1 p q r P).1 - (wgt s1 p q r P).2.1]).map fun z => rk (hgt a * z) := by
  have Rp := raw_rsd hp
  have Rq := raw_rsd hq
  have Rr := raw_rsd hr
  have RQ := raw_add (raw_rsd hP) (raw_shr (s0 := s0) ha hs)
  have Ru := raw_add Rp ha
  have Rv := raw_add Rq ha
  have Rw := raw_add Rr ha
  simp only [prs3, excL, addS, List.map_cons, List.map_nil]
  rw [(sd_low3 RQ (raw_low Ru) (raw_low Rv) (raw_low Rw)).1, (sd_low3 RQ Ru (raw_low Rv) (raw_low Rw)).2.1, (sd_low3 RQ Ru Rv (raw_low Rw)).2.2.1, (sd_low3 RQ Ru Rv Rw).2.2.2, (sd_low3 Rr RQ (raw_low Rv) (raw_low Rw)).2.1, (sd_low3 Rr RQ Rv (raw_low Rw)).2.2.1, (sd_low3 Rr RQ Rv Rw).2.2.2, (sd_low3 Rr Ru (raw_low RQ) (raw_low Rw)).2.1, (sd_low3 Rr Ru RQ (raw_low Rw)).2.2.1, (sd_low3 Rr Ru RQ Rw).2.2.2, (sd_low3 Rr Ru (raw_low Rv) (raw_low RQ)).2.1, (sd_low3 Rr Ru Rv (raw_low RQ)).2.2.1, (sd_low3 Rr Ru Rv RQ).2.2.2]
  have la := raw_lst ha
  have lp := raw_lst hp
  have lq := raw_lst hq
  have lr := raw_lst hr
  obtain ⟨x0, y0, w0, rfl, _⟩ := raw2_inv hp
  obtain ⟨x1, y1, w1, rfl, _⟩ := raw2_inv hq
  obtain ⟨x2, y2, w2, rfl, _⟩ := raw2_inv hr
  obtain ⟨x4, y4, w4, rfl, _⟩ := raw2_inv hP
  obtain ⟨x3, y3, z3, w3, rfl, _⟩ := raw3_inv ha
  simp only [lst, List.getLastD_cons, List.getLastD_nil] at la lp lq lr
  have e1 : sdS [addP (rsd [x4, y4, w4]) (shrA s0 s1 [x3, y3, z3, w3]), addP (rsd [x0, y0, w0]) [x3, y3, z3, w3], addP (rsd [x1, y1, w1]) [x3, y3, z3, w3], addP (rsd [x2, y2, w2]) [x3, y3, z3, w3]] = rk (hgt [x3, y3, z3, w3] * (s1 * lst [x4, y4, w4] * hdt [[x0, y0, w0], [x1, y1, w1], [x2, y2, w2]] - s0 * lst [x4, y4, w4] * hdt [[x0, y0, w0], [x1, y1, w1], [x2, y2, w2]])) := by
    refine rk_eqv (c := w3 * w3 * w3) (Int.mul_pos (Int.mul_pos la la) la) ?_
    simp only [rsd, shrA, addP, hdt, hgt, wgt, lst, List.getLastD_cons, List.getLastD_nil]
    grind
  have e2 : sdS [rsd [x2, y2, w2], addP (rsd [x4, y4, w4]) (shrA s0 s1 [x3, y3, z3, w3]), addP (rsd [x1, y1, w1]) [x3, y3, z3, w3], addP (rsd [x2, y2, w2]) [x3, y3, z3, w3]] = rk (hgt [x3, y3, z3, w3] * (wgt s1 [x0, y0, w0] [x1, y1, w1] [x2, y2, w2] [x4, y4, w4]).1) := by
    have f1 : hdt [rsd [x2, y2, w2], addP (rsd [x4, y4, w4]) (shrA s0 s1 [x3, y3, z3, w3]), addP (rsd [x1, y1, w1]) [x3, y3, z3, w3], addP (rsd [x2, y2, w2]) [x3, y3, z3, w3]] = s1 * (w3 * w3) * w2 * (hgt [x3, y3, z3, w3] * hdt [[x4, y4, w4], [x1, y1, w1], [x2, y2, w2]]) := by
      simp only [rsd, shrA, addP, hdt, hgt]
      grind
    have f2 : hgt [x3, y3, z3, w3] * (wgt s1 [x0, y0, w0] [x1, y1, w1] [x2, y2, w2] [x4, y4, w4]).1 = s1 * w0 * (hgt [x3, y3, z3, w3] * hdt [[x4, y4, w4], [x1, y1, w1], [x2, y2, w2]]) := by
      simp only [wgt, lst, List.getLastD_cons, List.getLastD_nil]
      grind
    rw [rk_eqv (Int.mul_pos (Int.mul_pos hs (Int.mul_pos la la)) lr) f1, f2, rk_pos (Int.mul_pos hs lp)]
  have e3 : sdS [rsd [x2, y2, w2], addP (rsd [x0, y0, w0]) [x3, y3, z3, w3], addP (rsd [x4, y4, w4]) (shrA s0 s1 [x3, y3, z3, w3]), addP (rsd [x2, y2, w2]) [x3, y3, z3, w3]] = rk (hgt [x3, y3, z3, w3] * (wgt s1 [x0, y0, w0] [x1, y1, w1] [x2, y2, w2] [x4, y4, w4]).2.1) := by
    have f1 : hdt [rsd [x2, y2, w2], addP (rsd [x0, y0, w0]) [x3, y3, z3, w3], addP (rsd [x4, y4, w4]) (shrA s0 s1 [x3, y3, z3, w3]), addP (rsd [x2, y2, w2]) [x3, y3, z3, w3]] = s1 * (w3 * w3) * w2 * (hgt [x3, y3, z3, w3] * hdt [[x0, y0, w0], [x4, y4, w4], [x2, y2, w2]]) := by
      simp only [rsd, shrA, addP, hdt, hgt]
      grind
    have f2 : hgt [x3, y3, z3, w3] * (wgt s1 [x0, y0, w0] [x1, y1, w1] [x2, y2, w2] [x4, y4, w4]).2.1 = s1 * w1 * (hgt [x3, y3, z3, w3] * hdt [[x0, y0, w0], [x4, y4, w4], [x2, y2, w2]]) := by
      simp only [wgt, lst, List.getLastD_cons, List.getLastD_nil]
      grind
    rw [rk_eqv (Int.mul_pos (Int.mul_pos hs (Int.mul_pos la la)) lr) f1, f2, rk_pos (Int.mul_pos hs lq)]
  have e4 : sdS [rsd [x2, y2, w2], addP (rsd [x0, y0, w0]) [x3, y3, z3, w3], addP (rsd [x1, y1, w1]) [x3, y3, z3, w3], addP (rsd [x4, y4, w4]) (shrA s0 s1 [x3, y3, z3, w3])] = rk (hgt [x3, y3, z3, w3] * (s0 * lst [x4, y4, w4] * hdt [[x0, y0, w0], [x1, y1, w1], [x2, y2, w2]] - (wgt s1 [x0, y0, w0] [x1, y1, w1] [x2, y2, w2] [x4, y4, w4]).1 - (wgt s1 [x0, y0, w0] [x1, y1, w1] [x2, y2, w2] [x4, y4, w4]).2.1)) := by
    refine rk_eqv (c := w3 * w3) (Int.mul_pos la la) ?_
    simp only [rsd, shrA, addP, hdt, hgt, wgt, lst, List.getLastD_cons, List.getLastD_nil]
    grind
  rw [e1, e2, e3, e4]

end
/-- how many of a prism's three simplexes a point is in -/
theorem prs_count {k l : Nat} {a p q r P : List Int} {s0 s1 : Int} (ha : Raw 3 a) (hz : hgt a ≠ 0) (hb : Pt 3 41 (lowL a)) (hp : Pt 2 k p) (hq : Pt 2 k q) (hr : Pt 2 k r) (h0 : 0 < hdt [p, q, r]) (hP : Pt 2 l P) (hs : 0 < s1) {Q : List Int} (hQ : Q = addS (rsd P) (lowL (shrA s0 s1 a))) {m : Nat} (mQ : Pt 3 m Q)
    (n0 : s0 ≠ 0) (n1 : s0 ≠ s1) (c0 : plS [p, q, r] P ≠ 0) (c1 : ∀ x ∈ prsS (lowL a) [p, q, r], plS x Q ≠ 0) :
    ((prsS (lowL a) [p, q, r]).countP fun x => decide (plS x Q = 1)) = if 0 < s0 ∧ s0 < s1 ∧ plS [p, q, r] P = 1 then 1 else 0 := by
  have hz' : hgt (lowL a) ≠ 0 := by
    have g0 := raw_ne ha
    obtain ⟨x, y, z, w, rfl, hw⟩ := raw3_inv ha
    show z / ((gcdL 0 [x, y, z, w] : Nat) : Int) ≠ 0
    intro e
    exact hz ((div_zero_iff g0 ((gcdL_dvd [x, y, z, w] 0).2 z (by simp))).mp e)
  obtain ⟨p1, p2, p3⟩ := prs_pts hb hp hq hr
  obtain ⟨m1, m2, m3⟩ := prs_ne hb hz' hp hq hr h0
  have hQ' : Q = addS (rsd P) (shrA s0 s1 a) := by
    rw [hQ]
    exact low_addr (raw_rsd hP.raw) (raw_shr ha hs)
  have low1 : ∀ x, Raw 3 x → addS x (lowL a) = addS x a := fun x hx => low_addr hx ha
  have q1 : prs1 (lowL a) p q r = prs1 a p q r := by unfold prs1; rw [low1 _ hp.rsd.raw]
  have q2 : prs2 (lowL a) p q r = prs2 a p q r := by unfold prs2; rw [low1 _ hp.rsd.raw, low1 _ hq.rsd.raw]
  have q3 : prs3 (lowL a) p q r = prs3 a p q r := by unfold prs3; rw [low1 _ hp.rsd.raw, low1 _ hq.rsd.raw, low1 _ hr.rsd.raw]
  have w1 := plS_made p1 m1 mQ
  have w2 := plS_made p2 m2 mQ
  have w3 := plS_made p3 m3 mQ
  have v1 := plc_by hz h0 (prs1_det ha hp.raw hq.raw hr.raw) (hQ' ▸ ex_prs1 (s0 := s0) ha hp.raw hq.raw hr.raw hP.raw hs)
  have v2 := plc_by hz h0 (prs2_det ha hp.raw hq.raw hr.raw) (hQ' ▸ ex_prs2 (s0 := s0) ha hp.raw hq.raw hr.raw hP.raw hs)
  have v3 := plc_by hz h0 (prs3_det ha hp.raw hq.raw hr.raw) (hQ' ▸ ex_prs3 (s0 := s0) ha hp.raw hq.raw hr.raw hP.raw hs)
  rw [q1, v1] at w1
  rw [q2, v2] at w2
  rw [q3, v3] at w3
  have sm := wgt_sum (s1 := s1) hp.raw hq.raw hr.raw hP.raw
  have lP := lst_pos hP
  have e0 : plS [p, q, r] P = plc [(wgt s1 p q r P).1, (wgt s1 p q r P).2.1, (wgt s1 p q r P).2.2] := by
    have key : ∀ {c z : Int}, 0 < c → (rk z < 0 ↔ c * z < 0) ∧ (rk z = 0 ↔ c * z = 0) := fun {c z} hc => by
      have h1 := rk_sgn z
      have h2 := rk_sgn (c * z)
      rw [rk_pos hc] at h2
      exact ⟨h1.1.trans (h1.1.symm.trans h2.1), h1.2.trans (h1.2.symm.trans h2.2)⟩
    have k1 := key (z := hdt [P, q, r]) (Int.mul_pos hs (lst_pos hp))
    have k2 := key (z := hdt [p, P, r]) (Int.mul_pos hs (lst_pos hq))
    have k3 := key (z := hdt [p, q, P]) (Int.mul_pos hs (lst_pos hr))
    show plc [rk (hdt [P, q, r]), rk (hdt [p, P, r]), rk (hdt [p, q, P])] = plc [s1 * lst p * hdt [P, q, r], s1 * lst q * hdt [p, P, r], s1 * lst r * hdt [p, q, P]]
    unfold plc
    simp only [List.any_cons, List.any_nil, Bool.or_false, decide_eq_decide.mpr k1.1, decide_eq_decide.mpr k1.2, decide_eq_decide.mpr k2.1, decide_eq_decide.mpr k2.2, decide_eq_decide.mpr k3.1, decide_eq_decide.mpr k3.2]
  have cc1 : plS (smpS (prs1 a p q r)) Q ≠ 0 := by rw [← q1]; exact c1 _ (by simp [prsS])
  have cc2 : plS (smpS (prs2 a p q r)) Q ≠ 0 := by rw [← q2]; exact c1 _ (by simp [prsS])
  have cc3 : plS (smpS (prs3 a p q r)) Q ≠ 0 := by rw [← q3]; exact c1 _ (by simp [prsS])
  rw [w1] at cc1
  rw [w2] at cc2
  rw [w3] at cc3
  rw [e0] at c0 ⊢
  simp only [prsS, q1, q2, q3, List.countP_cons, List.countP_nil, w1, w2, w3]
  have tp : (0 < s0 * lst P * hdt [p, q, r] ↔ 0 < s0) ∧ (s0 * lst P * hdt [p, q, r] < 0 ↔ s0 < 0) := by
    have := sgn_pos (c := lst P * hdt [p, q, r]) (z := s0) (Int.mul_pos lP h0)
    rw [Int.mul_comm _ s0, ← Int.mul_assoc] at this
    exact this
  have Tp : (0 < s1 * lst P * hdt [p, q, r] - s0 * lst P * hdt [p, q, r] ↔ 0 < s1 - s0) ∧ (s1 * lst P * hdt [p, q, r] - s0 * lst P * hdt [p, q, r] < 0 ↔ s1 - s0 < 0) := by
    have := sgn_pos (c := lst P * hdt [p, q, r]) (z := s1 - s0) (Int.mul_pos lP h0)
    have e : lst P * hdt [p, q, r] * (s1 - s0) = s1 * lst P * hdt [p, q, r] - s0 * lst P * hdt [p, q, r] := by grind
    rw [e] at this
    exact this
  have Tpos : 0 < s1 * lst P * hdt [p, q, r] := Int.mul_pos (Int.mul_pos hs lP) h0
  generalize (wgt s1 p q r P).1 = u at *
  generalize (wgt s1 p q r P).2.1 = v at *
  generalize (wgt s1 p q r P).2.2 = w at *
  generalize s0 * lst P * hdt [p, q, r] = t at *
  generalize s1 * lst P * hdt [p, q, r] = T at *
  clear w1 w2 w3 v1 v2 v3 q1 q2 q3 c1 e0
  have a1 := plc_1 [u - t, v, w, t]
  have a2 := plc_1 [u + v - t, w, u, t - u]
  have a3 := plc_1 [T - t, u, v, t - u - v]
  have a4 := plc_1 [u, v, w]
  have b1 := not_congr (plc_0 [u - t, v, w, t])
  have b2 := not_congr (plc_0 [u + v - t, w, u, t - u])
  have b3 := not_congr (plc_0 [T - t, u, v, t - u - v])
  have b4 := not_congr (plc_0 [u, v, w])
  rw [all4] at a1 a2 a3 b1 b2 b3
  rw [all3] at a4 b4
  rw [ex4] at b1 b2 b3
  rw [ex3] at b4
  replace b1 := b1.mp cc1
  replace b2 := b2.mp cc2
  replace b3 := b3.mp cc3
  replace b4 := b4.mp c0
  simp only [decide_eq_true_eq, a1, a2, a3, a4]
  clear a1 a2 a3 a4 cc1 cc2 cc3 c0
  split <;> split <;> split <;> split <;> omega
/-- the place on the way from a point of the plane to a top -/
def pyrQ (s0 s1 : Int) (t P : List Int) : List Int := match t, P with
  | [x, y, z, w], [a, b, c] => [a * w * (s1 - s0) + x * c * s0, b * w * (s1 - s0) + y * c * s0, 0 * w * (s1 - s0) + z * c * s0, c * w * s1]
  | _, _ => []
theorem raw_pyrQ {s0 s1 : Int} {t P : List Int} (ht : Raw 3 t) (hP : Raw 2 P) (hs : 0 < s1) : Raw 3 (pyrQ s0 s1 t P) := by
  obtain ⟨x, y, z, w, rfl, hw⟩ := raw3_inv ht
  obtain ⟨a, b, c, rfl, hc⟩ := raw2_inv hP
  exact raw_3 (Int.mul_pos (Int.mul_pos hc hw) hs)
theorem ex_pyr {t p q r P : List Int} {s0 s1 : Int} (ht : Raw 3 t) (hp : Raw 2 p) (hq : Raw 2 q) (hr : Raw 2 r) (hP : Raw 2 P) (hs : 0 < s1) :
    (excL [rsd p, rsd q, rsd r, t] (lowL (pyrQ s0 s1 t P))).map sdS = ([(s1 - s0) * hdt [P, q, r], (s1 - s0) * hdt [p, P, r], (s1 - s0) * hdt [p, q, P], s0 * hdt [p, q, r]]).map fun z => rk (hgt t * z) := by
  have Rp := raw_rsd hp
  have Rq := raw_rsd hq
  have Rr := raw_rsd hr
  have RQ := raw_pyrQ (s0 := s0) ht hP hs
  simp only [excL, List.map_cons, List.map_nil]
  rw [(sd_low3 RQ Rq Rr ht).1, (sd_low3 Rp RQ Rr ht).2.1, (sd_low3 Rp Rq RQ ht).2.2.1, (sd_low3 Rp Rq Rr RQ).2.2.2]
  have lt := raw_lst ht
  have lP := raw_lst hP
  obtain ⟨x0, y0, w0, rfl, _⟩ := raw2_inv hp
  obtain ⟨x1, y1, w1, rfl, _⟩ := raw2_inv hq
  obtain ⟨x2, y2, w2, rfl, _⟩ := raw2_inv hr
  obtain ⟨x4, y4, w4, rfl, _⟩ := raw2_inv hP
  obtain ⟨x3, y3, z3, w3, rfl, _⟩ := raw3_inv ht
  simp only [lst, List.getLastD_cons, List.getLastD_nil] at lt lP
  congr 1
  · refine rk_eqv (c := w3) lt ?_
    simp only [rsd, pyrQ, hdt, hgt]
    grind
  · congr 1
    · refine rk_eqv (c := w3) lt ?_
      simp only [rsd, pyrQ, hdt, hgt]
      grind
    · congr 1
      · refine rk_eqv (c := w3) lt ?_
        simp only [rsd, pyrQ, hdt, hgt]
        grind
      · congr 1
        refine rk_eqv (c := w4) lP ?_
        simp only [rsd, pyrQ, hdt, hgt]
        grind
theorem pyr_count {k l : Nat} {t p q r P : List Int} {s0 s1 : Int} (ht : Pt 3 41 t) (hk : 41 ≤ k) (hz : hgt t ≠ 0) (hp : Pt 2 k p) (hq : Pt 2 k q) (hr : Pt 2 k r) (h0 : 0 < hdt [p, q, r]) (hP : Pt 2 l P) (hs : 0 < s1) {m : Nat} (mQ : Pt 3 m (lowL (pyrQ s0 s1 t P)))
    (n0 : s0 ≠ 0) (n1 : s0 ≠ s1) (c0 : plS [p, q, r] P ≠ 0) (c1 : plS (pyrS t [p, q, r]) (lowL (pyrQ s0 s1 t P)) ≠ 0) :
    plS (pyrS t [p, q, r]) (lowL (pyrQ s0 s1 t P)) = 1 ↔ 0 < s0 ∧ s0 < s1 ∧ plS [p, q, r] P = 1 := by
  have pd := pyr_det ht.raw hp.raw hq.raw hr.raw
  have nz : hdt [rsd p, rsd q, rsd r, t] ≠ 0 := by
    rw [pd]
    exact Int.mul_ne_zero hz (by omega)
  have w1 := plS_made (pts3 hp.rsd hq.rsd hr.rsd (ht.le hk)) nz mQ
  have v1 := plc_by hz h0 (show sdS [rsd p, rsd q, rsd r, t] = rk (hgt t * hdt [p, q, r]) by unfold sdS; rw [pd]) (ex_pyr (s0 := s0) ht.raw hp.raw hq.raw hr.raw hP.raw hs)
  rw [v1] at w1
  have sm := wgt_sum (s1 := 1) hp.raw hq.raw hr.raw hP.raw
  have lP := lst_pos hP
  have e0 : plS [p, q, r] P = plc [hdt [P, q, r], hdt [p, P, r], hdt [p, q, P]] := by
    show plc [rk (hdt [P, q, r]), rk (hdt [p, P, r]), rk (hdt [p, q, P])] = _
    have k1 := rk_sgn (hdt [P, q, r])
    have k2 := rk_sgn (hdt [p, P, r])
    have k3 := rk_sgn (hdt [p, q, P])
    unfold plc
    simp only [List.any_cons, List.any_nil, Bool.or_false, decide_eq_decide.mpr k1.1, decide_eq_decide.mpr k1.2, decide_eq_decide.mpr k2.1, decide_eq_decide.mpr k2.2, decide_eq_decide.mpr k3.1, decide_eq_decide.mpr k3.2]
  show plS (smpS [rsd p, rsd q, rsd r, t]) _ = 1 ↔ _
  replace c1 : plS (smpS [rsd p, rsd q, rsd r, t]) (lowL (pyrQ s0 s1 t P)) ≠ 0 := c1
  rw [w1] at c1 ⊢
  rw [e0] at c0 ⊢
  simp only [wgt] at sm
  have lp := lst_pos hp
  have lq := lst_pos hq
  have lr := lst_pos hr
  have TP : 0 < 1 * lst P * hdt [p, q, r] := Int.mul_pos (Int.mul_pos (by decide) lP) h0
  have k1 := sgn_pos (c := 1 * lst p) (z := hdt [P, q, r]) (by omega)
  have k2 := sgn_pos (c := 1 * lst q) (z := hdt [p, P, r]) (by omega)
  have k3 := sgn_pos (c := 1 * lst r) (z := hdt [p, q, P]) (by omega)
  have a1 := plc_1 [(s1 - s0) * hdt [P, q, r], (s1 - s0) * hdt [p, P, r], (s1 - s0) * hdt [p, q, P], s0 * hdt [p, q, r]]
  have a4 := plc_1 [hdt [P, q, r], hdt [p, P, r], hdt [p, q, P]]
  rw [all4] at a1
  rw [all3] at a4
  rw [a1, a4]
  have t1 : 0 < s0 * hdt [p, q, r] ↔ 0 < s0 := by
    rw [Int.mul_comm]
    exact (sgn_pos h0).1
  rcases (by omega : 0 < s1 - s0 ∨ 0 < s0 - s1) with hd | hd
  · have b1 := (sgn_pos (z := hdt [P, q, r]) hd).1
    have b2 := (sgn_pos (z := hdt [p, P, r]) hd).1
    have b3 := (sgn_pos (z := hdt [p, q, P]) hd).1
    rw [b1, b2, b3, t1]
    constructor
    · rintro ⟨h1, h2, h3, h4⟩; exact ⟨h4, by omega, h1, h2, h3⟩
    · rintro ⟨h4, _, h1, h2, h3⟩; exact ⟨h1, h2, h3, h4⟩
  · have ng : ∀ z : Int, (0 < (s1 - s0) * z ↔ z < 0) := fun z => by
      have h := (sgn_pos (z := z) hd).2
      rw [show (s1 - s0) * z = -((s0 - s1) * z) by rw [← Int.neg_mul]; congr 1; omega]
      constructor
      · intro q; exact h.mp (by omega)
      · intro q; have := h.mpr q; omega
    rw [ng, ng, ng, t1]
    generalize 1 * lst p * hdt [P, q, r] = u at *
    generalize 1 * lst q * hdt [p, P, r] = v at *
    generalize 1 * lst r * hdt [p, q, P] = w at *
    constructor
    · rintro ⟨h1, h2, h3, h4⟩
      have := k1.2.mpr h1
      have := k2.2.mpr h2
      have := k3.2.mpr h3
      omega
    · rintro ⟨_, h, _⟩
      omega
/-! heaps -/
theorem prsH_count {k l : Nat} {a P : List Int} {s0 s1 : Int} (ha : Raw 3 a) (hz : hgt a ≠ 0) (hb : Pt 3 41 (lowL a)) (hP : Pt 2 l P) (hs : 0 < s1) {Q : List Int} (hQ : Q = addS (rsd P) (lowL (shrA s0 s1 a))) {m : Nat} (mQ : Pt 3 m Q) (n0 : s0 ≠ 0) (n1 : s0 ≠ s1) :
    ∀ {g : List (List (List Int))}, (∀ s ∈ g, Smp 2 k s) → (∀ s ∈ g, plS s P ≠ 0) → (∀ x ∈ prsH (lowL a) g, plS x Q ≠ 0) →
      ((prsH (lowL a) g).countP fun x => decide (plS x Q = 1)) = if 0 < s0 ∧ s0 < s1 then g.countP fun s => decide (plS s P = 1) else 0
  | [], _, _, _ => by simp [prsH]
  | s :: g, h, h1, h2 => by
    obtain ⟨p, q, r, rfl, hp, hq, hr, h0⟩ := (h s List.mem_cons_self).c2
    have ih := prsH_count ha hz hb hP hs hQ mQ n0 n1 (g := g) (fun x hx => h x (List.mem_cons_of_mem _ hx)) (fun x hx => h1 x (List.mem_cons_of_mem _ hx)) (fun x hx => h2 x (List.mem_append.mpr (.inr hx)))
    have c := prs_count ha hz hb hp hq hr h0 hP hs hQ mQ n0 n1 (h1 _ List.mem_cons_self) (fun x hx => h2 x (List.mem_append.mpr (.inl hx)))
    rw [prsH, List.countP_append, c, ih, List.countP_cons]
    by_cases h3 : 0 < s0 ∧ s0 < s1
    · by_cases h4 : plS [p, q, r] P = 1
      · rw [if_pos ⟨h3.1, h3.2, h4⟩, if_pos h3, if_pos h3, if_pos (by simpa using h4)]
        omega
      · rw [if_neg (fun z => h4 z.2.2), if_pos h3, if_pos h3, if_neg (by simpa using h4)]
        omega
    · rw [if_neg (fun z => h3 ⟨z.1, z.2.1⟩), if_neg h3, if_neg h3]
theorem pyrH_count {k l : Nat} {t P : List Int} {s0 s1 : Int} (ht : Pt 3 41 t) (hk : 41 ≤ k) (hz : hgt t ≠ 0) (hP : Pt 2 l P) (hs : 0 < s1) {m : Nat} (mQ : Pt 3 m (lowL (pyrQ s0 s1 t P))) (n0 : s0 ≠ 0) (n1 : s0 ≠ s1) :
    ∀ {g : List (List (List Int))}, (∀ s ∈ g, Smp 2 k s) → (∀ s ∈ g, plS s P ≠ 0) → (∀ x ∈ g.map (pyrS t), plS x (lowL (pyrQ s0 s1 t P)) ≠ 0) →
      ((g.map (pyrS t)).countP fun x => decide (plS x (lowL (pyrQ s0 s1 t P)) = 1)) = if 0 < s0 ∧ s0 < s1 then g.countP fun s => decide (plS s P = 1) else 0
  | [], _, _, _ => by simp
  | s :: g, h, h1, h2 => by
    obtain ⟨p, q, r, rfl, hp, hq, hr, h0⟩ := (h s List.mem_cons_self).c2
    have ih := pyrH_count ht hk hz hP hs mQ n0 n1 (g := g) (fun x hx => h x (List.mem_cons_of_mem _ hx)) (fun x hx => h1 x (List.mem_cons_of_mem _ hx)) (fun x hx => h2 x (by rw [List.map_cons]; exact List.mem_cons_of_mem _ hx))
    have c := pyr_count ht hk hz hp hq hr h0 hP hs mQ n0 n1 (h1 _ List.mem_cons_self) (h2 _ (by rw [List.map_cons]; exact List.mem_cons_self))
    rw [List.map_cons, List.countP_cons, List.countP_cons, ih, decide_eq_decide.mpr c]
    by_cases h3 : 0 < s0 ∧ s0 < s1
    · by_cases h4 : plS [p, q, r] P = 1
      · rw [if_pos h3, if_pos h3, decide_eq_true (show 0 < s0 ∧ s0 < s1 ∧ plS [p, q, r] P = 1 from ⟨h3.1, h3.2, h4⟩), decide_eq_true h4]
      · rw [if_pos h3, if_pos h3, decide_eq_false (show ¬ (0 < s0 ∧ s0 < s1 ∧ plS [p, q, r] P = 1) from fun z => h4 z.2.2), decide_eq_false h4]
    · rw [if_neg h3, if_neg h3, decide_eq_false (show ¬ (0 < s0 ∧ s0 < s1 ∧ plS [p, q, r] P = 1) from fun z => h3 ⟨z.1, z.2.1⟩)]
      rfl
end Mi

/-! MiE: texts as rows of code points. -/
namespace Mi
open PySem
def Sx (l : List Nat) : D := .str (SX.S l)
theorem fSx (l : List Nat) : PyData.str (SX.S l) = Sx l := rfl
/-- code points all -/
def Cps (a : List Nat) : Prop := ∀ c ∈ a, c < 1114112
theorem cps_nil : Cps [] := fun _ h => by simp at h
theorem cps_cons {c : Nat} {a : List Nat} (h : c < 1114112) (ha : Cps a) : Cps (c :: a) := fun x hx => by
  rcases List.mem_cons.mp hx with e | e
  · rw [e]; exact h
  · exact ha x e
theorem cps_app {a b : List Nat} (ha : Cps a) (hb : Cps b) : Cps (a ++ b) := fun x hx => by
  rcases List.mem_append.mp hx with e | e
  · exact ha x e
  · exact hb x e
theorem cps_sub {a b : List Nat} (hb : Cps b) (h : ∀ c ∈ a, c ∈ b) : Cps a := fun x hx => hb x (h x hx)
theorem lay_Sx {a : List Nat} (h : Cps a) : (Sx a).canLay0 = true := by
  show (SX.S a).cps.all (· < 0x110000) = true
  rw [← Array.all_toList, List.all_eq_true]
  intro c hc
  exact decide_eq_true (h c hc)
theorem eqv_Sx (a b : List Nat) : PyData.eqv (Sx a) (Sx b) = decide (a = b) := SX.S_beq_eq
theorem eqB_Sx {a b : List Nat} (ha : Cps a) (hb : Cps b) : eqB (Sx a) (Sx b) = some (decide (a = b)) := by
  unfold eqB SeqAt.shaped
  rw [lay_Sx ha, lay_Sx hb, eqv_Sx]
  rfl
theorem len_Sx {a : List Nat} (h : a.length ≤ 1000) : bltD .len [Sx a] = some (.dt (.int a.length)) := by
  show (if sizeB (SX.S a).length = true then some (Vl.dt (.int (SX.S a).length)) else none) = _
  rw [SX.S_len, sizeB_le h, if_pos rfl]
theorem add_Sx {a b : List Nat} (h : a.length + b.length ≤ 1000) : binD .add (Sx a) (Sx b) = some (.dt (Sx (a ++ b))) := by
  show (if sizeB ((SX.S a).length + (SX.S b).length) = true then some (Vl.dt (.str (SX.S a ++ SX.S b))) else none) = _
  rw [SX.S_len, SX.S_len, sizeB_le h, if_pos rfl, SX.S_cat]
  rfl
theorem slc_Sx {a : List Nat} {lo hi : Option Int} (h : a.length ≤ 1000) : slcD (Sx a) lo hi = some (.dt (Sx (cutL a lo hi))) := by
  show (if sizeB (SX.S a).length = true then some (Vl.dt (.str (L2.cutS (SX.S a) lo hi))) else none) = _
  rw [SX.S_len, sizeB_le h, if_pos rfl]
  show some (Vl.dt (PyData.str _)) = some (Vl.dt (PyData.str _))
  unfold L2.cutS cutL
  rw [SX.S_len]
theorem it_Sx (a : List Nat) : itemsOf (Sx a) = some (a.map fun c => Sx [c]) := rfl
theorem in_Sx (c : Nat) (b : List Nat) : cmpD .isin (Sx [c]) (Sx b) = some (decide (c ∈ b)) := by
  show some (!(Builtin.Str.occurrences (SX.S b) (SX.S [c]) 0 (SX.S b).length 1).isEmpty) = _
  rw [SX.in_one]
def strO : D → Option Str
  | .str z => some z
  | _ => none
theorem strO_Sx (a : List Nat) : strO (Sx a) = some (SX.S a) := rfl
theorem ev_txV {Φ : Env} {m : Tm} {a b : E} {s : Sl} : ev Φ (.tx m a b) s = match ev Φ a s with
    | .ok x s1 => match x with
      | .dt d0 => match strO d0 with
        | some z => match ev Φ b s1 with
          | .ok y s2 => match y.get s2 with
            | some d => ofO (txD m z d) s2
            | none => .no
          | .ex c args s2 => .ex c args s2
          | .no => .no
        | none => .no
      | _ => .no
    | .ex c args s1 => .ex c args s1
    | .no => .no := by
  rw [ev]
  cases ev Φ a s with
  | ok x s1 =>
    cases x with
    | dt d => cases d <;> rfl
    | _ => rfl
  | _ => rfl
/-- a text cut at a sign -/
def splC (c : Nat) (a : List Nat) : List (List Nat) := TL.spl [c] 0 [] a
theorem split_Sx {a : List Nat} {c : Nat} (hc : c < 256) (h : a.length ≤ 1000) : txD .split (SX.S a) (Sx [c]) = some (.nw (.list ((splC c a).map Sx))) := by
  have h2 : (1002 : Nat) ≤ sizeLine := by decide
  show (if (!((SX.S [c]).length == 0) && decide ((SX.S a).length + 2 ≤ sizeLine)) = true then some (Vl.nw (.list ((Txt.split (SX.S a) (SX.S [c])).map .str))) else none) = _
  rw [SX.S_len, SX.S_len, if_pos (by rw [decide_eq_true (by omega)]; rfl), SX.split_S (by simp) (by simp [hc]), List.map_map]
  rfl
theorem splC_no {c : Nat} {a : List Nat} (h : c ∉ a) : splC c a = [a] := by
  have := SX.spl_join (c := c) (sep := []) (parts := [a]) (by simp) (fun p hp => by rw [List.mem_singleton.mp hp]; exact h)
  have e : TL.joinL [c] [a] = a := by simp [TL.joinL]
  rw [e] at this
  exact this
theorem splC_at {c : Nat} {p q : List Nat} (h : c ∉ p) : splC c (p ++ c :: q) = p :: splC c q := SX.spl_free (sep := [c]) (p := p) q (by simp) (SX.free_head h)
theorem split_mem {c : Nat} : ∀ {a : List Nat}, c ∈ a → ∃ p q, a = p ++ c :: q ∧ c ∉ p
  | x :: a, h => by
    by_cases hx : x = c
    · subst hx
      exact ⟨[], a, rfl, by simp⟩
    · rcases List.mem_cons.mp h with e | e
      · exact absurd e.symm hx
      · obtain ⟨p, q, rfl, hp⟩ := split_mem e
        exact ⟨x :: p, q, rfl, fun m => by
          rcases List.mem_cons.mp m with e | e
          · exact hx e.symm
          · exact hp e⟩
theorem splC_ne (c : Nat) (a : List Nat) : splC c a ≠ [] := by
  by_cases h : c ∈ a
  · obtain ⟨p, q, rfl, hp⟩ := split_mem h
    rw [splC_at hp]
    simp
  · rw [splC_no h]
    simp
/-! numbers -/
def numZ (n : Int) : List Nat := if n < 0 then 45 :: TL.numL n.natAbs else TL.numL n.natAbs
theorem str_Z {n : Int} (h : n.natAbs.log2 < 1920) : bltD .str [.int n] = some (.dt (Sx (numZ n))) := by
  show (if decide (n.natAbs.log2 < 1920) = true then some (Vl.dt (.str (toString n))) else none) = _
  rw [if_pos (decide_eq_true h)]
  congr 2
  show PyData.str _ = PyData.str _
  congr 1
  cases n with
  | ofNat k => exact SX.num_S k
  | negSucc k =>
    refine TL.ext_tl ?_
    have e1 : TL.tl (Str.ofString (toString (Int.negSucc k))) = 45 :: TL.tl (Str.ofString (toString ((k + 1 : Nat) : Int))) := by
      have e0 : toString (Int.negSucc k) = "-" ++ toString ((k + 1 : Nat) : Int) := rfl
      rw [TL.tl_ofString, TL.tl_ofString, e0, String.toList_append, List.map_append]
      rfl
    refine Eq.trans e1 ?_
    rw [TL.tl_num]
    unfold numZ
    rw [if_pos (Int.negSucc_lt_zero k)]
    rfl
theorem int_D {a : List Nat} (h : NumText.AllDigits a) (hne : a ≠ []) (hl : a.length ≤ 640) : bltD .int [Sx a] = some (.dt (.int (NumText.digitsVal a : Nat))) := by
  show (if decide ((SX.S a).length ≤ 640) = true then (PySem.intText? (SX.S a)).map (fun n => Vl.dt (.int n)) else none) = _
  rw [SX.S_len, if_pos (decide_eq_true hl), SX.int_S (by rw [List.all_eq_true]; intro c hc; have := h c hc; simp [this.1, this.2]) hne (by omega)]
  rfl
def FIG : List Nat := [48, 49, 50, 51, 52, 53, 54, 55, 56, 57]
theorem mem_FIG {c : Nat} : c ∈ FIG ↔ 48 ≤ c ∧ c ≤ 57 := by
  simp only [FIG, List.mem_cons, List.not_mem_nil, or_false]
  omega
/-- one to sixty figures -/
def figs (l : List Nat) : Bool := decide (l.length ≠ 0) && decide (l.length ≤ 60) && l.all fun c => decide (c ∈ FIG)
theorem figs_ok {l : List Nat} (h : figs l = true) : NumText.AllDigits l ∧ l ≠ [] ∧ l.length ≤ 60 := by
  simp only [figs, Bool.and_eq_true, decide_eq_true_eq, List.all_eq_true] at h
  exact ⟨fun c hc => mem_FIG.mp (h.2 c hc), fun e => by rw [e] at h; exact h.1.1 rfl, h.1.2⟩
theorem figs_of {l : List Nat} (h : NumText.AllDigits l) (h0 : l ≠ []) (h1 : l.length ≤ 60) : figs l = true := by
  simp only [figs, Bool.and_eq_true, decide_eq_true_eq, List.all_eq_true]
  exact ⟨⟨fun e => h0 (List.eq_nil_of_length_eq_zero e), h1⟩, fun c hc => mem_FIG.mpr (h c hc)⟩
theorem isT_Sx (a : List Nat) : isTD (Sx a) .str = some true := rfl
theorem isT_Sxt (a : List Nat) : isTD (Sx a) .tuple = some false := rfl
theorem isT_nonS : isTD .none .str = some false := rfl
theorem isD_Sx (a : List Nat) : isD (Sx a) .none = some false := rfl
theorem blsOf_map (l : List Bool) : blsOf (l.map .bool) = some l := by
  induction l with
  | nil => rfl
  | cons b l ih => rw [List.map_cons, blsOf, ih]
def LSx (l : List (List Nat)) : D := .list (l.map Sx)
theorem fLSx (l : List (List Nat)) : PyData.list (l.map Sx) = LSx l := rfl
theorem len_LSx (l : List (List Nat)) : bltD .len [LSx l] = some (.dt (.int l.length)) := by simp [bltD, LSx]
theorem ixD_LSx (l : List (List Nat)) (i : Int) : ixD (LSx l) (.int i) = (L2.atI l i).map Sx := atI_map _ _ _
theorem lstO_LSx (l : List (List Nat)) : lstO (LSx l) = some (l.map Sx) := rfl
theorem tupO_LSx (l : List (List Nat)) : tupO (LSx l) = none := rfl
theorem tupO_Sx (l : List Nat) : tupO (Sx l) = none := rfl
theorem lstO_Sx (l : List Nat) : lstO (Sx l) = none := rfl
theorem app_LSx {l : List (List Nat)} {p : List Nat} (h : l.length < 1000) : mthO .append (LSx l) [Sx p] = some (.none, LSx (l ++ [p])) := by
  show (mthD .append (l.map Sx) [Sx p]).map (fun q => (q.1, PyData.list q.2)) = _
  simp [mthD, lt_sizeLine, h, LSx]
/-- the fraction that a text tells -/
def rdN (l : List Nat) : Option (Int × Int) := match splC 47 (if l.take 1 = [45] then l.drop 1 else l) with
  | [p] => if figs p = true then some (fr (if l.take 1 = [45] then -(NumText.digitsVal p : Nat) else (NumText.digitsVal p : Nat)) 1) else none
  | [p, q] => if figs p = true ∧ figs q = true ∧ NumText.digitsVal q ≠ 0 then some (fr (if l.take 1 = [45] then -(NumText.digitsVal p : Nat) else (NumText.digitsVal p : Nat)) (NumText.digitsVal q : Nat)) else none
  | _ => none
theorem digitsVal_lt : ∀ (n : Nat) (cs : List Nat), cs.length = n → NumText.AllDigits cs → NumText.digitsVal cs < 10 ^ n
  | 0, cs, h, _ => by
    rw [List.eq_nil_of_length_eq_zero h]
    decide
  | n + 1, cs, h, hd => by
    rcases List.eq_nil_or_concat cs with e | ⟨ds, c, e⟩
    · rw [e] at h; cases h
    · rw [List.concat_eq_append] at e
      subst e
      rw [List.length_append, List.length_singleton] at h
      have ih := digitsVal_lt n ds (by omega) (fun x hx => hd x (List.mem_append_left _ hx))
      have hc := hd c (by simp)
      rw [NumText.digitsVal_snoc, Nat.pow_succ]
      omega
theorem figs_lt {l : List Nat} (h : figs l = true) : NumText.digitsVal l < 10 ^ 60 := by
  obtain ⟨h1, _, h3⟩ := figs_ok h
  exact Nat.lt_of_lt_of_le (digitsVal_lt _ _ rfl h1) (Nat.pow_le_pow_right (by decide) h3)
theorem splC_len {c : Nat} : ∀ (n : Nat) (a : List Nat), a.length ≤ n → (∀ p ∈ splC c a, p.length ≤ n ∧ ∀ x ∈ p, x ∈ a) ∧ (splC c a).length ≤ n + 1 := by
  intro n
  induction n with
  | zero =>
    intro a h
    have e : a = [] := List.eq_nil_of_length_eq_zero (by omega)
    subst e
    rw [splC_no (by simp)]
    exact ⟨fun p hp => by rw [List.mem_singleton.mp hp]; simp, by simp⟩
  | succ n ih =>
    intro a h
    by_cases m : c ∈ a
    · obtain ⟨p, q, rfl, hp⟩ := split_mem m
      rw [List.length_append, List.length_cons] at h
      rw [splC_at hp]
      have := ih q (by omega)
      refine ⟨fun x hx => ?_, by simp; omega⟩
      rcases List.mem_cons.mp hx with e | e
      · rw [e]; exact ⟨by omega, fun y hy => List.mem_append_left _ hy⟩
      · have := this.1 x e
        exact ⟨by omega, fun y hy => List.mem_append_right _ (List.mem_cons_of_mem _ (this.2 y hy))⟩
    · rw [splC_no m]
      exact ⟨fun p hp => by rw [List.mem_singleton.mp hp]; exact ⟨h, fun _ h => h⟩, by simp⟩
/-- a fraction as a text -/
def shN (t b : Int) : List Nat := if b = 1 then numZ t else numZ t ++ 47 :: numZ b
theorem cps_num (n : Nat) : Cps (TL.numL n) := fun c hc => by
  have := TL.numL_digits n c hc
  omega
theorem cps_numZ (t : Int) : Cps (numZ t) := by
  unfold numZ
  split
  · exact cps_cons (by decide) (cps_num _)
  · exact cps_num _
theorem cps_shN (t b : Int) : Cps (shN t b) := by
  unfold shN
  split
  · exact cps_numZ t
  · exact cps_app (cps_numZ t) (cps_cons (by decide) (cps_numZ b))
theorem numL_figs {n : Nat} (h : n < 1000000000000000000000000000000000000000000000000000000000000) : figs (TL.numL n) = true := figs_of (TL.numL_digits n) (TL.numL_ne n) (TL.numL_len (by decide) (by
  have : (10 : Nat) ^ 60 = 1000000000000000000000000000000000000000000000000000000000000 := by decide
  omega))
theorem numL_take (n : Nat) (r : List Nat) : (TL.numL n ++ r).take 1 ≠ [45] := by
  obtain ⟨c, q, e⟩ := List.exists_cons_of_ne_nil (TL.numL_ne n)
  have := TL.numL_digits n c (by rw [e]; simp)
  rw [e]
  intro h
  simp at h
  omega
theorem spl_tail {u : Nat} {b : Int} (hb : 0 < b) : splC 47 (if b = 1 then TL.numL u else TL.numL u ++ 47 :: numZ b) = if b = 1 then [TL.numL u] else [TL.numL u, TL.numL b.natAbs] := by
  split
  · exact splC_no (TL.numL_free (by decide))
  · rw [splC_at (TL.numL_free (by decide))]
    unfold numZ
    rw [if_neg (by omega), splC_no (TL.numL_free (by decide))]
theorem shN_cons {t b : Int} (h : t < 0) : shN t b = 45 :: (if b = 1 then TL.numL t.natAbs else TL.numL t.natAbs ++ 47 :: numZ b) := by
  unfold shN
  have e : numZ t = 45 :: TL.numL t.natAbs := by unfold numZ; rw [if_pos h]
  rw [e]
  split <;> rfl
theorem shN_pos {t b : Int} (h : ¬ t < 0) : shN t b = (if b = 1 then TL.numL t.natAbs else TL.numL t.natAbs ++ 47 :: numZ b) := by
  unfold shN
  have e : numZ t = TL.numL t.natAbs := by unfold numZ; rw [if_neg h]
  rw [e]
theorem rdN_shN {t b : Int} (hb : 0 < b) (ht : (t.natAbs : Int) < 1000000000000000000000000000000000000000000000000000000000000) (h2 : b < 1000000000000000000000000000000000000000000000000000000000000) (g : Int.gcd t b = 1) : rdN (shN t b) = some (t, b) := by
  have fu := numL_figs (n := t.natAbs) (by omega)
  have fv := numL_figs (n := b.natAbs) (by omega)
  have lo := fr_low hb g
  have fin : ∀ s : Int, s = t → (match (if b = 1 then [TL.numL t.natAbs] else [TL.numL t.natAbs, TL.numL b.natAbs]) with
    | [p] => if figs p = true then some (fr s 1) else none
    | [p, q] => if figs p = true ∧ figs q = true ∧ NumText.digitsVal q ≠ 0 then some (fr s (NumText.digitsVal q : Nat)) else none
    | _ => none) = some (t, b) := by
    rintro s rfl
    by_cases h1 : b = 1
    · subst h1
      rw [if_pos rfl]
      show (if figs (TL.numL s.natAbs) = true then some (fr s 1) else none) = _
      rw [if_pos fu, lo]
    · rw [if_neg h1]
      show (if figs (TL.numL s.natAbs) = true ∧ figs (TL.numL b.natAbs) = true ∧ NumText.digitsVal (TL.numL b.natAbs) ≠ 0 then some (fr s (NumText.digitsVal (TL.numL b.natAbs) : Nat)) else none) = _
      rw [TL.numL_val, if_pos ⟨fu, fv, by omega⟩, show ((b.natAbs : Nat) : Int) = b by omega, lo]
  unfold rdN
  by_cases h : t < 0
  · rw [shN_cons h]
    have t1 : ∀ z : List Nat, (45 :: z).take 1 = [45] := fun z => rfl
    simp only [t1, if_true, List.drop_one, List.tail_cons]
    rw [spl_tail hb]
    by_cases h1 : b = 1
    · have := fin t rfl
      rw [if_pos h1] at this ⊢
      simp only [TL.numL_val] at this ⊢
      rw [show -((t.natAbs : Nat) : Int) = t by omega]
      exact this
    · have := fin t rfl
      rw [if_neg h1] at this ⊢
      simp only [TL.numL_val] at this ⊢
      rw [show -((t.natAbs : Nat) : Int) = t by omega]
      exact this
  · rw [shN_pos h]
    have nt : ¬ (if b = 1 then TL.numL t.natAbs else TL.numL t.natAbs ++ 47 :: numZ b).take 1 = [45] := by
      split
      · have := numL_take t.natAbs []
        rwa [List.append_nil] at this
      · exact numL_take _ _
    rw [if_neg nt, spl_tail hb]
    simp only [if_neg nt]
    by_cases h1 : b = 1
    · have := fin t rfl
      rw [if_pos h1] at this ⊢
      simp only [TL.numL_val] at this ⊢
      rw [show ((t.natAbs : Nat) : Int) = t by omega]
      exact this
    · have := fin t rfl
      rw [if_neg h1] at this ⊢
      simp only [TL.numL_val] at this ⊢
      rw [show ((t.natAbs : Nat) : Int) = t by omega]
      exact this
end Mi

namespace Kl
section
open PySem PySem.Spec PyProof.Rows L2 Mi
abbrev topSt (i : Nat) : Stmt := PySem.Challenge.pw_scissorhall_k80_numbers_written.main.body.getD i (.Pass ⟨0, 0, 0, 0⟩)
def F0t0 : Mi.E := (.cmp .ne (.var 3) (.int 0))
def F0b0r0 : Mi.Ss := .cons (.par 2 3 (.var 3) (.bin .mod (.var 2) (.var 3))) .nil
def F0r2 : Mi.Ss := .cons (.ret (.var 2)) .nil
def F0r1 : Mi.Ss := .cons (.whl F0t0 F0b0r0) F0r2
def F0r0 : Mi.Ss := .cons (.par 2 3 (.blt .abs (.cons (.var 0) .nil)) (.blt .abs (.cons (.var 1) .nil))) F0r1
def F0 : Mi.Fn := { np := 2, ns := 4, mask := [false, false], body := F0r0 }
def D0 : Mi.Def := { d := ⟨("divisor", none), "divisor", "divisor", defArgs (topSt 6), defBody (topSt 6), defScope (topSt 6), [], []⟩, ps := ["one", "other"], N := ["one", "other", "great", "small"], F := F0, dvs := [] }
def F1b0r0 : Mi.Ss := .cons (.asg (.nm 1) (.call 0 (.cons (.var 1) (.cons (.var 2) .nil)) [])) .nil
def F1c0 : Mi.E := (.bin .fdiv (.var 2) (.var 1))
def F1r3 : Mi.Ss := .cons (.ret (.blt .tuple (.cons (.lc F1c0 (.nm 2) (.e (.var 0)) .no [2]) .nil))) .nil
def F1r2 : Mi.Ss := .cons (.ifs (.cmp .lt (.var 1) (.int 2)) (.cons (.ret (.blt .tuple (.cons (.var 0) .nil))) .nil) .nil) F1r3
def F1r1 : Mi.Ss := .cons (.for_ (.nm 2) (.e (.var 0)) F1b0r0) F1r2
def F1r0 : Mi.Ss := .cons (.asg (.nm 1) (.int 0)) F1r1
def F1 : Mi.Fn := { np := 1, ns := 3, mask := [false], body := F1r0 }
def D1 : Mi.Def := { d := ⟨("lowest", none), "lowest", "lowest", defArgs (topSt 7), defBody (topSt 7), defScope (topSt 7), [], []⟩, ps := ["numbers"], N := ["numbers", "most", "number"], F := F1, dvs := [] }
def F2r2 : Mi.Ss := .cons (.ret (.call 1 (.cons (.tup (.cons (.neg (.var 0)) (.cons (.neg (.var 1)) .nil))) .nil) [])) .nil
def F2r1 : Mi.Ss := .cons (.ifs (.cmp .gt (.var 1) (.int 0)) (.cons (.ret (.call 1 (.cons (.tup (.cons (.var 0) (.cons (.var 1) .nil))) .nil) [])) .nil) .nil) F2r2
def F2r0 : Mi.Ss := .cons (.ifs (.cmp .eq (.var 1) (.int 0)) (.cons (.raisT 1) .nil) .nil) F2r1
def F2 : Mi.Fn := { np := 2, ns := 2, mask := [false, false], body := F2r0 }
def D2 : Mi.Def := { d := ⟨("fraction", none), "fraction", "fraction", defArgs (topSt 8), defBody (topSt 8), defScope (topSt 8), [.int 1], []⟩, ps := ["top", "bottom"], N := ["top", "bottom"], F := F2, dvs := [.int 1] }
def F3c0 : Mi.E := (.cmp .isin (.var 1) (.glb 0))
def F3r1 : Mi.Ss := .cons (.ret (.blt .all (.cons (.lc F3c0 (.nm 1) (.e (.var 0)) .no [1]) .nil))) .nil
def F3r0 : Mi.Ss := .cons (.ifs (.or (.cons (.cmp .eq (.blt .len (.cons (.var 0) .nil)) (.int 0)) (.cons (.cmp .gt (.blt .len (.cons (.var 0) .nil)) (.glb 1)) .nil))) (.cons (.ret (.bl false)) .nil) .nil) F3r1
def F3 : Mi.Fn := { np := 1, ns := 2, mask := [false], body := F3r0 }
def D3 : Mi.Def := { d := ⟨("are_figures", none), "are_figures", "are_figures", defArgs (topSt 13), defBody (topSt 13), defScope (topSt 13), [], []⟩, ps := ["word"], N := ["word", "sign"], F := F3, dvs := [] }
def F4r3 : Mi.Ss := .cons (.ret (.bin .add (.bin .add (.blt .str (.cons (.var 1) .nil)) (.str (SX.S [47]))) (.blt .str (.cons (.var 2) .nil)))) .nil
def F4r2 : Mi.Ss := .cons (.ifs (.cmp .eq (.var 2) (.int 1)) (.cons (.ret (.blt .str (.cons (.var 1) .nil))) .nil) .nil) F4r3
def F4r1 : Mi.Ss := .cons (.ifs (.or (.cons (.cmp .ge (.blt .abs (.cons (.var 1) .nil)) (.glb 2)) (.cons (.cmp .ge (.var 2) (.glb 2)) .nil))) (.cons (.raisT 3) .nil) .nil) F4r2
def F4r0 : Mi.Ss := .cons (.asg (.tp (.cons (.nm 1) (.cons (.nm 2) .nil))) (.var 0)) F4r1
def F4 : Mi.Fn := { np := 1, ns := 3, mask := [false], body := F4r0 }
def D4 : Mi.Def := { d := ⟨("shown_number", none), "shown_number", "shown_number", defArgs (topSt 14), defBody (topSt 14), defScope (topSt 14), [], []⟩, ps := ["number"], N := ["number", "top", "bottom"], F := F4, dvs := [] }
def F5r9 : Mi.Ss := .cons (.ret (.call 2 (.cons (.var 3) (.cons (.var 4) .nil)) [])) .nil
def F5r8 : Mi.Ss := .cons (.ifs (.cmp .eq (.slc (.var 0) .no (.so (.int 1))) (.str (SX.S [45]))) (.cons (.ret (.call 2 (.cons (.neg (.var 3)) (.cons (.var 4) .nil)) [])) .nil) .nil) F5r9
def F5r7 : Mi.Ss := .cons (.ifs (.cmp .eq (.var 4) (.int 0)) (.cons (.raisT 2) .nil) .nil) F5r8
def F5r6 : Mi.Ss := .cons (.asg (.nm 4) (.blt .int (.cons (.ix (.var 2) (.int 1)) .nil))) F5r7
def F5r5 : Mi.Ss := .cons (.asg (.nm 3) (.blt .int (.cons (.ix (.var 2) (.int 0)) .nil))) F5r6
def F5r4 : Mi.Ss := .cons (.ifs (.or (.cons (.cmp .ne (.blt .len (.cons (.var 2) .nil)) (.int 2)) (.cons (.not (.call 3 (.cons (.ix (.var 2) (.int 0)) .nil) [])) (.cons (.not (.call 3 (.cons (.ix (.var 2) (.int 1)) .nil) [])) .nil)))) (.cons (.raisT 2) .nil) .nil) F5r5
def F5r3 : Mi.Ss := .cons (.ifs (.cmp .eq (.blt .len (.cons (.var 2) .nil)) (.int 1)) (.cons (.expr (.mth .append 2 (.cons (.str (SX.S [49])) .nil))) .nil) .nil) F5r4
def F5r2 : Mi.Ss := .cons (.asg (.nm 2) (.tx .split (.var 1) (.str (SX.S [47])))) F5r3
def F5r1 : Mi.Ss := .cons (.ifs (.cmp .eq (.slc (.var 0) .no (.so (.int 1))) (.str (SX.S [45]))) (.cons (.asg (.nm 1) (.slc (.var 0) (.so (.int 1)) .no)) .nil) .nil) F5r2
def F5r0 : Mi.Ss := .cons (.asg (.nm 1) (.var 0)) F5r1
def F5 : Mi.Fn := { np := 1, ns := 5, mask := [false], body := F5r0 }
def D5 : Mi.Def := { d := ⟨("read_number", none), "read_number", "read_number", defArgs (topSt 15), defBody (topSt 15), defScope (topSt 15), [], []⟩, ps := ["line"], N := ["line", "word", "parts", "top", "bottom"], F := F5, dvs := [] }
def F6b0r0 : Mi.Ss := .cons (.ifs (.cmp .ge (.var 3) (.bin .pow (.int 10) (.int 18))) (.cons (.expr (.mth .append 1 (.cons (.bin .sub (.var 3) (.bin .pow (.int 10) (.int 18))) .nil))) .nil) (.cons (.asg (.nm 4) (.bin .mod (.bin .mul (.bin .add (.bin .add (.bin .add (.var 3) (.bin .mul (.bin .mul (.int 7) (.var 2)) (.var 2))) (.bin .mul (.int 13) (.var 2))) (.int 5)) (.int 48271)) (.int 2147483647))) (.cons (.asg (.nm 5) (.bin .mod (.bin .mul (.bin .add (.bin .add (.bin .add (.var 3) (.bin .mul (.bin .mul (.int 11) (.var 2)) (.var 2))) (.bin .mul (.int 17) (.var 2))) (.int 3)) (.int 40692)) (.int 2147483399))) (.cons (.asg (.nm 6) (.bin .mod (.bin .mul (.bin .add (.bin .add (.bin .add (.var 3) (.bin .mul (.bin .mul (.int 5) (.var 2)) (.var 2))) (.bin .mul (.int 29) (.var 2))) (.int 8)) (.int 39373)) (.int 2147483587))) (.cons (.asg (.nm 4) (.bin .mod (.bin .mul (.var 4) (.int 52021)) (.int 1000000007))) (.cons (.asg (.nm 5) (.bin .mod (.bin .mul (.var 5) (.int 30011)) (.int 998244353))) (.cons (.asg (.nm 6) (.bin .mod (.bin .mul (.var 6) (.int 45989)) (.int 1000000009))) (.cons (.expr (.mth .append 1 (.cons (.bin .add (.bin .mul (.bin .add (.bin .mul (.var 4) (.int 998244353)) (.var 5)) (.int 1000000009)) (.var 6)) .nil))) .nil)))))))) .nil
def F6r2 : Mi.Ss := .cons (.ret (.var 1)) .nil
def F6r1 : Mi.Ss := .cons (.for_ (.tp (.cons (.nm 2) (.cons (.nm 3) .nil))) (.enm (.slc (.var 0) .no (.so (.int 63)))) F6b0r0) F6r2
def F6r0 : Mi.Ss := .cons (.asg (.nm 1) (.lst .nil)) F6r1
def F6 : Mi.Fn := { np := 1, ns := 7, mask := [false], body := F6r0 }
def D6 : Mi.Def := { d := ⟨("_law_row", none), "_law_row", "_law_row", defArgs (topSt 17), defBody (topSt 17), defScope (topSt 17), [], []⟩, ps := ["_law_script"], N := ["_law_script", "_law_row_here", "_law_k", "_law_cell", "_law_one", "_law_two", "_law_three"], F := F6, dvs := [] }
def F7t0 : Mi.E := (.and (.cons (.cmp .gt (.blt .len (.cons (.var 0) .nil)) (.int 0)) (.cons (.cmp .eq (.ix (.var 0) (.int 0)) (.int 0)) .nil)))
def F7b0r0 : Mi.Ss := .cons (.expr (.mth .popAt 0 (.cons (.int 0) .nil))) .nil
def F7r4 : Mi.Ss := .cons (.ret (.var 2)) .nil
def F7r3 : Mi.Ss := .cons (.setIx 0 (.int 0) (.bin .fdiv (.ix (.var 0) (.int 0)) (.var 1))) F7r4
def F7r2 : Mi.Ss := .cons (.asg (.nm 2) (.bin .mod (.ix (.var 0) (.int 0)) (.var 1))) F7r3
def F7r1 : Mi.Ss := .cons (.ifs (.cmp .eq (.blt .len (.cons (.var 0) .nil)) (.int 0)) (.cons (.ret (.int 0)) .nil) .nil) F7r2
def F7r0 : Mi.Ss := .cons (.whl F7t0 F7b0r0) F7r1
def F7 : Mi.Fn := { np := 2, ns := 3, mask := [true, false], body := F7r0 }
def D7 : Mi.Def := { d := ⟨("_law_take", none), "_law_take", "_law_take", defArgs (topSt 18), defBody (topSt 18), defScope (topSt 18), [], []⟩, ps := ["_law_row_here", "_law_many"], N := ["_law_row_here", "_law_many", "_law_found"], F := F7, dvs := [] }
def F8t0 : Mi.E := (.cmp .gt (.var 1) (.int 0))
def F8b0r0 : Mi.Ss := .cons (.par 0 1 (.var 1) (.bin .mod (.var 0) (.var 1))) .nil
def F8r3 : Mi.Ss := .cons (.ret (.var 0)) .nil
def F8r2 : Mi.Ss := .cons (.whl F8t0 F8b0r0) F8r3
def F8r1 : Mi.Ss := .cons (.asg (.nm 1) (.blt .abs (.cons (.var 1) .nil))) F8r2
def F8r0 : Mi.Ss := .cons (.asg (.nm 0) (.blt .abs (.cons (.var 0) .nil))) F8r1
def F8 : Mi.Fn := { np := 2, ns := 2, mask := [false, false], body := F8r0 }
def D8 : Mi.Def := { d := ⟨("_law_gcd", none), "_law_gcd", "_law_gcd", defArgs (topSt 19), defBody (topSt 19), defScope (topSt 19), [], []⟩, ps := ["_law_one", "_law_other"], N := ["_law_one", "_law_other"], F := F8, dvs := [] }
def F9b0r0 : Mi.Ss := .cons (.asg (.nm 1) (.call 8 (.cons (.var 1) (.cons (.var 2) .nil)) [])) .nil
def F9c0 : Mi.E := (.bin .fdiv (.var 2) (.var 1))
def F9r3 : Mi.Ss := .cons (.ret (.blt .tuple (.cons (.lc F9c0 (.nm 2) (.e (.var 0)) .no [2]) .nil))) .nil
def F9r2 : Mi.Ss := .cons (.ifs (.cmp .eq (.var 1) (.int 0)) (.cons (.ret (.blt .tuple (.cons (.var 0) .nil))) .nil) .nil) F9r3
def F9r1 : Mi.Ss := .cons (.for_ (.nm 2) (.e (.var 0)) F9b0r0) F9r2
def F9r0 : Mi.Ss := .cons (.asg (.nm 1) (.int 0)) F9r1
def F9 : Mi.Fn := { np := 1, ns := 3, mask := [false], body := F9r0 }
def D9 : Mi.Def := { d := ⟨("_law_lowest", none), "_law_lowest", "_law_lowest", defArgs (topSt 20), defBody (topSt 20), defScope (topSt 20), [], []⟩, ps := ["_law_numbers"], N := ["_law_numbers", "_law_by", "_law_number"], F := F9, dvs := [] }
def F10r0 : Mi.Ss := .cons (.ret (.and (.cons (.isT (.var 0) .int) (.cons (.not (.isT (.var 0) .bool)) .nil)))) .nil
def F10 : Mi.Fn := { np := 1, ns := 1, mask := [false], body := F10r0 }
def D10 : Mi.Def := { d := ⟨("_law_whole", none), "_law_whole", "_law_whole", defArgs (topSt 21), defBody (topSt 21), defScope (topSt 21), [], []⟩, ps := ["_law_number"], N := ["_law_number"], F := F10, dvs := [] }
def F11c0 : Mi.E := (.call 10 (.cons (.var 2) .nil) [])
def F11r1 : Mi.Ss := .cons (.ret (.blt .all (.cons (.lc F11c0 (.nm 2) (.e (.var 0)) .no [2]) .nil))) .nil
def F11r0 : Mi.Ss := .cons (.ifs (.or (.cons (.not (.isT (.var 0) .tuple)) (.cons (.cmp .ne (.blt .len (.cons (.var 0) .nil)) (.var 1)) .nil))) (.cons (.ret (.bl false)) .nil) .nil) F11r1
def F11 : Mi.Fn := { np := 2, ns := 3, mask := [false, false], body := F11r0 }
def D11 : Mi.Def := { d := ⟨("_law_wholes", none), "_law_wholes", "_law_wholes", defArgs (topSt 22), defBody (topSt 22), defScope (topSt 22), [], []⟩, ps := ["_law_told", "_law_many"], N := ["_law_told", "_law_many", "_law_number"], F := F11, dvs := [] }
def F12r1 : Mi.Ss := .cons (.ret (.call 9 (.cons (.lst (.cons (.var 0) (.cons (.var 1) .nil))) .nil) [])) .nil
def F12r0 : Mi.Ss := .cons (.ifs (.cmp .lt (.var 1) (.int 0)) (.cons (.ret (.call 9 (.cons (.lst (.cons (.bin .sub (.int 0) (.var 0)) (.cons (.bin .sub (.int 0) (.var 1)) .nil))) .nil) [])) .nil) .nil) F12r1
def F12 : Mi.Fn := { np := 2, ns := 2, mask := [false, false], body := F12r0 }
def D12 : Mi.Def := { d := ⟨("_law_frac", none), "_law_frac", "_law_frac", defArgs (topSt 23), defBody (topSt 23), defScope (topSt 23), [], []⟩, ps := ["_law_top", "_law_bottom"], N := ["_law_top", "_law_bottom"], F := F12, dvs := [] }
def F13r3 : Mi.Ss := .cons (.ret (.bin .add (.bin .add (.blt .str (.cons (.var 0) .nil)) (.str (SX.S [47]))) (.blt .str (.cons (.var 1) .nil)))) .nil
def F13r2 : Mi.Ss := .cons (.ifs (.cmp .eq (.var 1) (.int 1)) (.cons (.ret (.blt .str (.cons (.var 0) .nil))) .nil) .nil) F13r3
def F13r1 : Mi.Ss := .cons (.ifs (.or (.cons (.cmp .ge (.blt .abs (.cons (.var 0) .nil)) (.bin .pow (.int 10) (.int 60))) (.cons (.cmp .ge (.var 1) (.bin .pow (.int 10) (.int 60))) .nil))) (.cons (.ret .non) .nil) .nil) F13r2
def F13r0 : Mi.Ss := .cons (.asg (.tp (.cons (.nm 0) (.cons (.nm 1) .nil))) (.call 12 (.cons (.var 0) (.cons (.var 1) .nil)) [])) F13r1
def F13 : Mi.Fn := { np := 2, ns := 2, mask := [false, false], body := F13r0 }
def D13 : Mi.Def := { d := ⟨("_law_written", none), "_law_written", "_law_written", defArgs (topSt 24), defBody (topSt 24), defScope (topSt 24), [], []⟩, ps := ["_law_top", "_law_bottom"], N := ["_law_top", "_law_bottom"], F := F13, dvs := [] }
def F14r4 : Mi.Ss := .cons (.ret (.call 7 (.cons (.var 0) (.cons (.ix (.lst (.cons (.int 10) (.cons (.bin .pow (.int 10) (.int 20)) (.cons (.bin .pow (.int 10) (.int 61)) .nil)))) (.call 7 (.cons (.var 0) (.cons (.int 3) .nil)) [])) .nil)) [])) .nil
def F14r3 : Mi.Ss := .cons (.ifs (.cmp .eq (.var 1) (.int 2)) (.cons (.ret (.bin .pow (.int 10) (.int 59))) .nil) .nil) F14r4
def F14r2 : Mi.Ss := .cons (.ifs (.cmp .eq (.var 1) (.int 1)) (.cons (.ret (.bin .pow (.int 10) (.int 60))) .nil) .nil) F14r3
def F14r1 : Mi.Ss := .cons (.ifs (.cmp .eq (.var 1) (.int 0)) (.cons (.ret (.bin .sub (.bin .pow (.int 10) (.int 60)) (.int 1))) .nil) .nil) F14r2
def F14r0 : Mi.Ss := .cons (.asg (.nm 1) (.call 7 (.cons (.var 0) (.cons (.int 8) .nil)) [])) F14r1
def F14 : Mi.Fn := { np := 1, ns := 2, mask := [true], body := F14r0 }
def D14 : Mi.Def := { d := ⟨("_law_great", none), "_law_great", "_law_great", defArgs (topSt 25), defBody (topSt 25), defScope (topSt 25), [], []⟩, ps := ["_law_row_here"], N := ["_law_row_here", "_law_way"], F := F14, dvs := [] }
def F15r12 : Mi.Ss := .cons (.ret (.and (.cons (.call 11 (.cons (.var 8) (.cons (.int 2) .nil)) []) (.cons (.cmp .eq (.var 8) (.var 3)) .nil)))) .nil
def F15r11 : Mi.Ss := .cons (.asg (.nm 8) (.call 5 (.cons (.var 5) .nil) [])) F15r12
def F15r10 : Mi.Ss := .cons (.ifs (.or (.cons (.not (.isT (.var 5) .str)) (.cons (.cmp .ne (.var 5) (.var 4)) .nil))) (.cons (.ret (.bl false)) .nil) .nil) F15r11
def F15r9 : Mi.Ss := .cons (.ifs (.cmp .is (.var 4) .non) (.cons (.ret (.and (.cons (.cmp .is (.var 5) .non) (.cons (.cmp .eq (.var 6) (.tup (.cons (.bl true) (.cons (.bl false) .nil)))) .nil)))) .nil) .nil) F15r10
def F15r8 : Mi.Ss := .cons (.try_ (.cons (.asg (.nm 5) (.call 4 (.cons (.var 3) .nil) [])) .nil) (.cons [3] (some 7) (.cons (.asg (.nm 6) (.tup (.cons (.isE 7 [0]) (.cons (.isE 7 [2]) .nil)))) .nil) .nil)) F15r9
def F15r7 : Mi.Ss := .cons (.asg (.nm 6) (.tup (.cons (.bl false) (.cons (.bl false) .nil)))) F15r8
def F15r6 : Mi.Ss := .cons (.asg (.nm 5) .non) F15r7
def F15r5 : Mi.Ss := .cons (.asg (.nm 4) (.call 13 (.cons (.var 1) (.cons (.var 2) .nil)) [])) F15r6
def F15r4 : Mi.Ss := .cons (.asg (.nm 3) (.call 12 (.cons (.var 1) (.cons (.var 2) .nil)) [])) F15r5
def F15r3 : Mi.Ss := .cons (.ifs (.cmp .gt (.call 7 (.cons (.var 0) (.cons (.int 3) .nil)) []) (.int 0)) (.cons (.asg (.nm 2) (.blt .max (.cons (.int 1) (.cons (.call 14 (.cons (.var 0) .nil) []) .nil)))) .nil) .nil) F15r4
def F15r2 : Mi.Ss := .cons (.asg (.nm 2) (.int 1)) F15r3
def F15r1 : Mi.Ss := .cons (.ifs (.cmp .eq (.call 7 (.cons (.var 0) (.cons (.int 2) .nil)) []) (.int 1)) (.cons (.asg (.nm 1) (.bin .sub (.int 0) (.var 1))) .nil) .nil) F15r2
def F15r0 : Mi.Ss := .cons (.asg (.nm 1) (.call 14 (.cons (.var 0) .nil) [])) F15r1
def F15 : Mi.Fn := { np := 1, ns := 9, mask := [true], body := F15r0 }
def D15 : Mi.Def := { d := ⟨("_law_once", none), "_law_once", "_law_once", defArgs (topSt 26), defBody (topSt 26), defScope (topSt 26), [], []⟩, ps := ["_law_row_here"], N := ["_law_row_here", "_law_top", "_law_bottom", "_law_number", "_law_due", "_law_found", "_law_refused", "e", "_law_again"], F := F15, dvs := [] }
def F16r1 : Mi.Ss := .cons (.ret (.and (.cons (.call 15 (.cons (.var 1) .nil) []) (.cons (.call 15 (.cons (.var 1) .nil) []) .nil)))) .nil
def F16r0 : Mi.Ss := .cons (.asg (.nm 1) (.call 6 (.cons (.var 0) .nil) [])) F16r1
def F16 : Mi.Fn := { np := 1, ns := 2, mask := [false], body := F16r0 }
def D16 : Mi.Def := { d := ⟨("law", none), "law", "law", defArgs (topSt 27), defBody (topSt 27), defScope (topSt 27), [], []⟩, ps := ["_law_script"], N := ["_law_script", "_law_row_here"], F := F16, dvs := [] }
def tb0 : List Mi.Def := [D0, D1, D2, D3, D4, D5, D6, D7, D8, D9, D10, D11, D12, D13, D14, D15, D16]
def tb : List Mi.Def := tb0
end
section
open PySem Mi
def clsL : List Str := ["HallError", "NoNumber", "NoText", "TooGreat", "ValueError"]
def und (a b : Nat) : Bool := ([(0, 0), (4, 0), (1, 1), (0, 1), (4, 1), (2, 2), (0, 2), (4, 2), (3, 3), (0, 3), (4, 3)] : List (Nat × Nat)).contains (a, b)
def glbD : Nat → Mi.D
  | 0 => .str (SX.S [48, 49, 50, 51, 52, 53, 54, 55, 56, 57])
  | 1 => .int 60
  | 2 => .int 1000000000000000000000000000000000000000000000000000000000000
  | _ => .none
def fnl0 : List Mi.Fn := [F0, F1, F2, F3, F4, F5, F6, F7, F8, F9, F10, F11, F12, F13, F14, F15, F16]
def fnl : List Mi.Fn := fnl0
def Pr : Mi.Prg := { fs := fun k => fnl[k]?, glb := glbD, under := und }
noncomputable def Ph : Mi.Env := Pr.E
theorem callP {k n : Nat} {f : Fn} {ds : List D} {r : Ret} (hf : fnl[k]? = some f) (h : runFn Ph n f ds = some r) : Ph.fn k ds = some r := Pr.call hf h
theorem un_0_0 : Ph.under 0 0 = true := rfl
theorem un_0_1 : Ph.under 0 1 = true := rfl
theorem un_0_2 : Ph.under 0 2 = true := rfl
theorem un_0_3 : Ph.under 0 3 = true := rfl
theorem un_0_4 : Ph.under 0 4 = false := rfl
theorem un_1_0 : Ph.under 1 0 = false := rfl
theorem un_1_1 : Ph.under 1 1 = true := rfl
theorem un_1_2 : Ph.under 1 2 = false := rfl
theorem un_1_3 : Ph.under 1 3 = false := rfl
theorem un_1_4 : Ph.under 1 4 = false := rfl
theorem un_2_0 : Ph.under 2 0 = false := rfl
theorem un_2_1 : Ph.under 2 1 = false := rfl
theorem un_2_2 : Ph.under 2 2 = true := rfl
theorem un_2_3 : Ph.under 2 3 = false := rfl
theorem un_2_4 : Ph.under 2 4 = false := rfl
theorem un_3_0 : Ph.under 3 0 = false := rfl
theorem un_3_1 : Ph.under 3 1 = false := rfl
theorem un_3_2 : Ph.under 3 2 = false := rfl
theorem un_3_3 : Ph.under 3 3 = true := rfl
theorem un_3_4 : Ph.under 3 4 = false := rfl
theorem un_4_0 : Ph.under 4 0 = true := rfl
theorem un_4_1 : Ph.under 4 1 = true := rfl
theorem un_4_2 : Ph.under 4 2 = true := rfl
theorem un_4_3 : Ph.under 4 3 = true := rfl
theorem un_4_4 : Ph.under 4 4 = false := rfl
theorem mk0 : Ph.mask 0 = [false, false] := rfl
theorem mk1 : Ph.mask 1 = [false] := rfl
theorem mk2 : Ph.mask 2 = [false, false] := rfl
theorem mk3 : Ph.mask 3 = [false] := rfl
theorem mk4 : Ph.mask 4 = [false] := rfl
theorem mk5 : Ph.mask 5 = [false] := rfl
theorem mk6 : Ph.mask 6 = [false] := rfl
theorem mk7 : Ph.mask 7 = [true, false] := rfl
theorem mk8 : Ph.mask 8 = [false, false] := rfl
theorem mk9 : Ph.mask 9 = [false] := rfl
theorem mk10 : Ph.mask 10 = [false] := rfl
theorem mk11 : Ph.mask 11 = [false, false] := rfl
theorem mk12 : Ph.mask 12 = [false, false] := rfl
theorem mk13 : Ph.mask 13 = [false, false] := rfl
theorem mk14 : Ph.mask 14 = [true] := rfl
theorem mk15 : Ph.mask 15 = [true] := rfl
theorem mk16 : Ph.mask 16 = [false] := rfl
theorem gv0 : Ph.glb 0 = Mi.Sx [48, 49, 50, 51, 52, 53, 54, 55, 56, 57] := rfl
theorem gv1 : Ph.glb 1 = .int 60 := rfl
theorem gv2 : Ph.glb 2 = .int 1000000000000000000000000000000000000000000000000000000000000 := rfl
theorem WW : type_of% (And.intro (And.intro (And.intro (And.intro (And.intro (And.intro (And.intro (And.intro @Mi.run.eq_1 @Mi.run.eq_2) (And.intro @run_setV (And.intro @Mi.run.eq_4 @Mi.run.eq_5))) (And.intro (And.intro @Mi.run.eq_6 @Mi.run.eq_7) (And.intro @Mi.run.eq_8 (And.intro @Mi.run.eq_9 @Mi.run.eq_10)))) (And.intro (And.intro (And.intro @Mi.run.eq_11 @Mi.run.eq_13) (And.intro @Mi.run.eq_15 (And.intro @Mi.run.eq_17 @ev.eq_1))) (And.intro (And.intro @ev.eq_2 (And.intro @ev.eq_3 @ev.eq_4)) (And.intro @ev.eq_5 (And.intro @ev.eq_6 @ev.eq_7))))) (And.intro (And.intro (And.intro (And.intro @ev.eq_8 @ev.eq_9) (And.intro @ev.eq_10 (And.intro @ev.eq_11 @ev.eq_12))) (And.intro (And.intro @ev.eq_13 (And.intro @ev.eq_14 @ev.eq_15)) (And.intro @ev.eq_16 (And.intro @ev.eq_17 @ev.eq_18)))) (And.intro (And.intro (And.intro @ev_revV @revD_LT) (And.intro @ev.eq_20 (And.intro @ev.eq_21 @ev.eq_22))) (And.intro (And.intro @ev.eq_23 (And.intro @ev.eq_24 @ev.eq_25)) (And.intro @ev_mthV (And.intro @evAnd.eq_2 @evAnd_c)))))) (And.intro (And.intro (And.intro (And.intro (And.intro @evOr.eq_2 @evOr_c) (And.intro @evIt.eq_1 (And.intro @evIt.eq_2 @evIt.eq_3))) (And.intro (And.intro @evIt_enmV @evIt_zipV) (And.intro @bindD.eq_1 (And.intro @bindD_tpV @fMV)))) (And.intro (And.intro (And.intro @ixMV0 @ixMV1) (And.intro @lenMV (And.intro @isTMV @tupOMV))) (And.intro (And.intro @eqB_MV (And.intro @bindDs.eq_1 @bindDs.eq_2)) (And.intro @cs_s (And.intro @cs_v @cs_n))))) (And.intro (And.intro (And.intro (And.intro @cs_o @cs_x) (And.intro @tupO_T (And.intro @tupO_TT @tupO_TTT))) (And.intro (And.intro @tupO_Li (And.intro @tupO_LT @tupO_LL)) (And.intro @tupO_LTT (And.intro @tupO_t @tupO_l)))) (And.intro (And.intro (And.intro @lstO_T @lstO_TT) (And.intro @lstO_TTT (And.intro @lstO_Li @lstO_LT))) (And.intro (And.intro @lstO_LL (And.intro @lstO_LTT @lstO_l)) (And.intro @lstO_t (And.intro @zipD_cc @zipD_nl))))))) (And.intro (And.intro (And.intro (And.intro (And.intro (And.intro @zipD_nr @enumD.eq_1) (And.intro @enumD.eq_2 (And.intro @app_Li @app_LT))) (And.intro (And.intro @app_LTT @app_LL) (And.intro @app_0 (And.intro @app_raw @app_LLL)))) (And.intro (And.intro (And.intro @fLLLm @fLLL1) (And.intro @ixD_LLL (And.intro @len_LLL @it_LLL))) (And.intro (And.intro @lstO_LLL (And.intro @tupO_LLL @slc_LL)) (And.intro @range_m1_2 (And.intro @range_m1_3 @rngB_m1))))) (And.intro (And.intro (And.intro (And.intro @mul_l2 @mul_l3) (And.intro @all_l (And.intro @any_l @sorted_LT))) (And.intro (And.intro @sorted_TT (And.intro @int_i @int_b)) (And.intro @abs_i (And.intro @range_2 @range_3)))) (And.intro (And.intro (And.intro @range_4 @rngB_2) (And.intro @rngB_3 (And.intro @rngB_4 @set_Li))) (And.intro (And.intro @set_LT (And.intro @ixN_1_0 @ixN_1_m1)) (And.intro @ixN_2_0 (And.intro @ixN_2_1 @ixN_2_m1)))))) (And.intro (And.intro (And.intro (And.intro (And.intro @ixN_2_m2 @ixN_3_0) (And.intro @ixN_3_1 (And.intro @ixN_3_2 @ixN_3_m1))) (And.intro (And.intro @ixN_3_m2 @ixN_4_0) (And.intro @ixN_4_1 (And.intro @ixN_4_2 @ixN_4_3)))) (And.intro (And.intro (And.intro @ixN_4_m1 @ixN_4_m2) (And.intro @ixN_5_0 (And.intro @ixN_5_1 @ixN_5_2))) (And.intro (And.intro @ixN_5_3 (And.intro @ixN_5_4 @ixN_5_m1)) (And.intro @ixN_5_m2 (And.intro @blsOf.eq_1 @blsOf.eq_2))))) (And.intro (And.intro (And.intro (And.intro @pow10_6 @pow10_9) (And.intro @pow10_10 (And.intro @pow10_12 @pow10_18))) (And.intro (And.intro @pow10_20 (And.intro @pow10_30 @pow10_31)) (And.intro @pow10_40 (And.intro @pow10_50 @pow10_59)))) (And.intro (And.intro (And.intro @pow10_60 @pow10_61) (And.intro @mul_ii (And.intro @mulB_pk @add_ii))) (And.intro (And.intro @sub_ii (And.intro @add_TT @add_LL)) (And.intro @add_LTLT (And.intro @add_TTTT @add_LTT)))))))) (And.intro (And.intro (And.intro (And.intro (And.intro (And.intro (And.intro @lt_ii @le_ii) (And.intro @gt_ii (And.intro @ge_ii @eq_dd))) (And.intro (And.intro @ne_dd @eqB_ii) (And.intro @eqB_T (And.intro @eqB_Li @eqB_TT)))) (And.intro (And.intro (And.intro @eqB_LT @eqB_LL) (And.intro @eqB_TTT (And.intro @eqB_LTT @eqB_none))) (And.intro (And.intro @fT1 (And.intro @fT2 @fT3)) (And.intro @fT4 (And.intro @fL1 @fL2))))) (And.intro (And.intro (And.intro (And.intro @fL3 @fL4) (And.intro @fT (And.intro @fL @fTT1))) (And.intro (And.intro @fTT2 (And.intro @fTT3 @fTT4)) (And.intro @fLT1 (And.intro @fLT2 @fLT3)))) (And.intro (And.intro (And.intro @fLT4 @fLL1) (And.intro @fLL2 (And.intro @fLL3 @fLL4))) (And.intro (And.intro @fLTm (And.intro @fTTm @fLTTm)) (And.intro @fTTTm (And.intro @fLLm @fLTT1)))))) (And.intro (And.intro (And.intro (And.intro (And.intro @fLTT2 @fLTT3) (And.intro @fTTT1 (And.intro @fTTT2 @fTTT3))) (And.intro (And.intro @ixD_T @ixD_Li) (And.intro @ixD_TT (And.intro @ixD_LT @ixD_LL)))) (And.intro (And.intro (And.intro @ixD_TTT @ixD_LTT) (And.intro @len_T (And.intro @len_Li @len_TT))) (And.intro (And.intro @len_LT (And.intro @len_LL @len_TTT)) (And.intro @len_LTT (And.intro @tup_T @tup_Li))))) (And.intro (And.intro (And.intro (And.intro @tup_TT @tup_LT) (And.intro @tup_TTT (And.intro @tup_LTT @lst_T))) (And.intro (And.intro @lst_Li (And.intro @lst_TT @lst_LT)) (And.intro @lst_TTT (And.intro @lst_LTT @tup_raw)))) (And.intro (And.intro (And.intro @lst_raw @lst_rawT) (And.intro @it_T (And.intro @it_Li @it_TT))) (And.intro (And.intro @it_LT (And.intro @it_TTT @it_LTT)) (And.intro @it_LL (And.intro @fLTT4 @fTTT4))))))) (And.intro (And.intro (And.intro (And.intro (And.intro (And.intro @fTT6 @fLL6) (And.intro @isT_T (And.intro @isT_Li @isT_TT))) (And.intro (And.intro @isT_TTT @sum_Li) (And.intro @slc_T (And.intro @slc_Li @slc_TT)))) (And.intro (And.intro (And.intro @slc_LT @slc_LTT) (And.intro @cutL_init (And.intro @cutL_init2 @cutL_last))) (And.intro (And.intro @cutL_f0 (And.intro @cutL_t0 @cutL_f1)) (And.intro @cutL_t1 (And.intro @cutL_f2 @cutL_t2))))) (And.intro (And.intro (And.intro (And.intro @cutL_f3 @cutL_t3) (And.intro @at_0 (And.intro @at_1 @at_2))) (And.intro (And.intro @at_3 (And.intro @at_m1 @at_m2)) (And.intro @at_m2' (And.intro @at_m2'' @gl1)))) (And.intro (And.intro (And.intro @glc @at_take2) (And.intro @at_take3 (And.intro @at_take4 @fdiv_2))) (And.intro (And.intro @is_dd (And.intro @isnot_dd @isD_nn)) (And.intro @isD_T (And.intro @isD_TT @isD_LT)))))) (And.intro (And.intro (And.intro (And.intro (And.intro @isD_TTT @isD_MV) (And.intro @isD_int (And.intro @ixD_t @ixD_l))) (And.intro (And.intro @lt_sizeLine @sizeB_le) (And.intro @eqB_LC (And.intro @eqB_TC @fCR)))) (And.intro (And.intro (And.intro @crD_m @ixCR0) (And.intro @ixCR1 (And.intro @lenCR @isTCR))) (And.intro (And.intro @tupO_CR (And.intro @fLCm @fTCm)) (And.intro @fLC1 (And.intro @it_LC @it_TC))))) (And.intro (And.intro (And.intro (And.intro @tup_LC @lst_TC) (And.intro @lst_LC (And.intro @isT_TC @len_LC))) (And.intro (And.intro @len_TC (And.intro @ev_txV @strO_Sx)) (And.intro @fSx (And.intro @it_Sx @in_Sx)))) (And.intro (And.intro (And.intro @isT_Sx @isT_Sxt) (And.intro @isT_nonS (And.intro @isD_Sx @fLSx))) (And.intro (And.intro @len_LSx (And.intro @ixD_LSx @lstO_LSx)) (And.intro @tupO_LSx (And.intro @tupO_Sx @lstO_Sx))))))))) := (And.intro (And.intro (And.intro (And.intro (And.intro (And.intro (And.intro (And.intro @Mi.run.eq_1 @Mi.run.eq_2) (And.intro @run_setV (And.intro @Mi.run.eq_4 @Mi.run.eq_5))) (And.intro (And.intro @Mi.run.eq_6 @Mi.run.eq_7) (And.intro @Mi.run.eq_8 (And.intro @Mi.run.eq_9 @Mi.run.eq_10)))) (And.intro (And.intro (And.intro @Mi.run.eq_11 @Mi.run.eq_13) (And.intro @Mi.run.eq_15 (And.intro @Mi.run.eq_17 @ev.eq_1))) (And.intro (And.intro @ev.eq_2 (And.intro @ev.eq_3 @ev.eq_4)) (And.intro @ev.eq_5 (And.intro @ev.eq_6 @ev.eq_7))))) (And.intro (And.intro (And.intro (And.intro @ev.eq_8 @ev.eq_9) (And.intro @ev.eq_10 (And.intro @ev.eq_11 @ev.eq_12))) (And.intro (And.intro @ev.eq_13 (And.intro @ev.eq_14 @ev.eq_15)) (And.intro @ev.eq_16 (And.intro @ev.eq_17 @ev.eq_18)))) (And.intro (And.intro (And.intro @ev_revV @revD_LT) (And.intro @ev.eq_20 (And.intro @ev.eq_21 @ev.eq_22))) (And.intro (And.intro @ev.eq_23 (And.intro @ev.eq_24 @ev.eq_25)) (And.intro @ev_mthV (And.intro @evAnd.eq_2 @evAnd_c)))))) (And.intro (And.intro (And.intro (And.intro (And.intro @evOr.eq_2 @evOr_c) (And.intro @evIt.eq_1 (And.intro @evIt.eq_2 @evIt.eq_3))) (And.intro (And.intro @evIt_enmV @evIt_zipV) (And.intro @bindD.eq_1 (And.intro @bindD_tpV @fMV)))) (And.intro (And.intro (And.intro @ixMV0 @ixMV1) (And.intro @lenMV (And.intro @isTMV @tupOMV))) (And.intro (And.intro @eqB_MV (And.intro @bindDs.eq_1 @bindDs.eq_2)) (And.intro @cs_s (And.intro @cs_v @cs_n))))) (And.intro (And.intro (And.intro (And.intro @cs_o @cs_x) (And.intro @tupO_T (And.intro @tupO_TT @tupO_TTT))) (And.intro (And.intro @tupO_Li (And.intro @tupO_LT @tupO_LL)) (And.intro @tupO_LTT (And.intro @tupO_t @tupO_l)))) (And.intro (And.intro (And.intro @lstO_T @lstO_TT) (And.intro @lstO_TTT (And.intro @lstO_Li @lstO_LT))) (And.intro (And.intro @lstO_LL (And.intro @lstO_LTT @lstO_l)) (And.intro @lstO_t (And.intro @zipD_cc @zipD_nl))))))) (And.intro (And.intro (And.intro (And.intro (And.intro (And.intro @zipD_nr @enumD.eq_1) (And.intro @enumD.eq_2 (And.intro @app_Li @app_LT))) (And.intro (And.intro @app_LTT @app_LL) (And.intro @app_0 (And.intro @app_raw @app_LLL)))) (And.intro (And.intro (And.intro @fLLLm @fLLL1) (And.intro @ixD_LLL (And.intro @len_LLL @it_LLL))) (And.intro (And.intro @lstO_LLL (And.intro @tupO_LLL @slc_LL)) (And.intro @range_m1_2 (And.intro @range_m1_3 @rngB_m1))))) (And.intro (And.intro (And.intro (And.intro @mul_l2 @mul_l3) (And.intro @all_l (And.intro @any_l @sorted_LT))) (And.intro (And.intro @sorted_TT (And.intro @int_i @int_b)) (And.intro @abs_i (And.intro @range_2 @range_3)))) (And.intro (And.intro (And.intro @range_4 @rngB_2) (And.intro @rngB_3 (And.intro @rngB_4 @set_Li))) (And.intro (And.intro @set_LT (And.intro @ixN_1_0 @ixN_1_m1)) (And.intro @ixN_2_0 (And.intro @ixN_2_1 @ixN_2_m1)))))) (And.intro (And.intro (And.intro (And.intro (And.intro @ixN_2_m2 @ixN_3_0) (And.intro @ixN_3_1 (And.intro @ixN_3_2 @ixN_3_m1))) (And.intro (And.intro @ixN_3_m2 @ixN_4_0) (And.intro @ixN_4_1 (And.intro @ixN_4_2 @ixN_4_3)))) (And.intro (And.intro (And.intro @ixN_4_m1 @ixN_4_m2) (And.intro @ixN_5_0 (And.intro @ixN_5_1 @ixN_5_2))) (And.intro (And.intro @ixN_5_3 (And.intro @ixN_5_4 @ixN_5_m1)) (And.intro @ixN_5_m2 (And.intro @blsOf.eq_1 @blsOf.eq_2))))) (And.intro (And.intro (And.intro (And.intro @pow10_6 @pow10_9) (And.intro @pow10_10 (And.intro @pow10_12 @pow10_18))) (And.intro (And.intro @pow10_20 (And.intro @pow10_30 @pow10_31)) (And.intro @pow10_40 (And.intro @pow10_50 @pow10_59)))) (And.intro (And.intro (And.intro @pow10_60 @pow10_61) (And.intro @mul_ii (And.intro @mulB_pk @add_ii))) (And.intro (And.intro @sub_ii (And.intro @add_TT @add_LL)) (And.intro @add_LTLT (And.intro @add_TTTT @add_LTT)))))))) (And.intro (And.intro (And.intro (And.intro (And.intro (And.intro (And.intro @lt_ii @le_ii) (And.intro @gt_ii (And.intro @ge_ii @eq_dd))) (And.intro (And.intro @ne_dd @eqB_ii) (And.intro @eqB_T (And.intro @eqB_Li @eqB_TT)))) (And.intro (And.intro (And.intro @eqB_LT @eqB_LL) (And.intro @eqB_TTT (And.intro @eqB_LTT @eqB_none))) (And.intro (And.intro @fT1 (And.intro @fT2 @fT3)) (And.intro @fT4 (And.intro @fL1 @fL2))))) (And.intro (And.intro (And.intro (And.intro @fL3 @fL4) (And.intro @fT (And.intro @fL @fTT1))) (And.intro (And.intro @fTT2 (And.intro @fTT3 @fTT4)) (And.intro @fLT1 (And.intro @fLT2 @fLT3)))) (And.intro (And.intro (And.intro @fLT4 @fLL1) (And.intro @fLL2 (And.intro @fLL3 @fLL4))) (And.intro (And.intro @fLTm (And.intro @fTTm @fLTTm)) (And.intro @fTTTm (And.intro @fLLm @fLTT1)))))) (And.intro (And.intro (And.intro (And.intro (And.intro @fLTT2 @fLTT3) (And.intro @fTTT1 (And.intro @fTTT2 @fTTT3))) (And.intro (And.intro @ixD_T @ixD_Li) (And.intro @ixD_TT (And.intro @ixD_LT @ixD_LL)))) (And.intro (And.intro (And.intro @ixD_TTT @ixD_LTT) (And.intro @len_T (And.intro @len_Li @len_TT))) (And.intro (And.intro @len_LT (And.intro @len_LL @len_TTT)) (And.intro @len_LTT (And.intro @tup_T @tup_Li))))) (And.intro (And.intro (And.intro (And.intro @tup_TT @tup_LT) (And.intro @tup_TTT (And.intro @tup_LTT @lst_T))) (And.intro (And.intro @lst_Li (And.intro @lst_TT @lst_LT)) (And.intro @lst_TTT (And.intro @lst_LTT @tup_raw)))) (And.intro (And.intro (And.intro @lst_raw @lst_rawT) (And.intro @it_T (And.intro @it_Li @it_TT))) (And.intro (And.intro @it_LT (And.intro @it_TTT @it_LTT)) (And.intro @it_LL (And.intro @fLTT4 @fTTT4))))))) (And.intro (And.intro (And.intro (And.intro (And.intro (And.intro @fTT6 @fLL6) (And.intro @isT_T (And.intro @isT_Li @isT_TT))) (And.intro (And.intro @isT_TTT @sum_Li) (And.intro @slc_T (And.intro @slc_Li @slc_TT)))) (And.intro (And.intro (And.intro @slc_LT @slc_LTT) (And.intro @cutL_init (And.intro @cutL_init2 @cutL_last))) (And.intro (And.intro @cutL_f0 (And.intro @cutL_t0 @cutL_f1)) (And.intro @cutL_t1 (And.intro @cutL_f2 @cutL_t2))))) (And.intro (And.intro (And.intro (And.intro @cutL_f3 @cutL_t3) (And.intro @at_0 (And.intro @at_1 @at_2))) (And.intro (And.intro @at_3 (And.intro @at_m1 @at_m2)) (And.intro @at_m2' (And.intro @at_m2'' @gl1)))) (And.intro (And.intro (And.intro @glc @at_take2) (And.intro @at_take3 (And.intro @at_take4 @fdiv_2))) (And.intro (And.intro @is_dd (And.intro @isnot_dd @isD_nn)) (And.intro @isD_T (And.intro @isD_TT @isD_LT)))))) (And.intro (And.intro (And.intro (And.intro (And.intro @isD_TTT @isD_MV) (And.intro @isD_int (And.intro @ixD_t @ixD_l))) (And.intro (And.intro @lt_sizeLine @sizeB_le) (And.intro @eqB_LC (And.intro @eqB_TC @fCR)))) (And.intro (And.intro (And.intro @crD_m @ixCR0) (And.intro @ixCR1 (And.intro @lenCR @isTCR))) (And.intro (And.intro @tupO_CR (And.intro @fLCm @fTCm)) (And.intro @fLC1 (And.intro @it_LC @it_TC))))) (And.intro (And.intro (And.intro (And.intro @tup_LC @lst_TC) (And.intro @lst_LC (And.intro @isT_TC @len_LC))) (And.intro (And.intro @len_TC (And.intro @ev_txV @strO_Sx)) (And.intro @fSx (And.intro @it_Sx @in_Sx)))) (And.intro (And.intro (And.intro @isT_Sx @isT_Sxt) (And.intro @isT_nonS (And.intro @isD_Sx @fLSx))) (And.intro (And.intro @len_LSx (And.intro @ixD_LSx @lstO_LSx)) (And.intro @tupO_LSx (And.intro @tupO_Sx @lstO_Sx)))))))))
theorem WM : type_of% (And.intro (And.intro (And.intro (And.intro (And.intro @mk0 @mk1) (And.intro @mk2 (And.intro @mk3 @mk4))) (And.intro (And.intro @mk5 (And.intro @mk6 @mk7)) (And.intro @mk8 (And.intro @mk9 @mk10)))) (And.intro (And.intro (And.intro @mk11 @mk12) (And.intro @mk13 (And.intro @mk14 @mk15))) (And.intro (And.intro @mk16 (And.intro @un_0_0 @un_0_1)) (And.intro @un_0_2 (And.intro @un_0_3 @un_0_4))))) (And.intro (And.intro (And.intro (And.intro @un_1_0 @un_1_1) (And.intro @un_1_2 (And.intro @un_1_3 @un_1_4))) (And.intro (And.intro @un_2_0 (And.intro @un_2_1 @un_2_2)) (And.intro @un_2_3 (And.intro @un_2_4 @un_3_0)))) (And.intro (And.intro (And.intro @un_3_1 (And.intro @un_3_2 @un_3_3)) (And.intro @un_3_4 (And.intro @un_4_0 @un_4_1))) (And.intro (And.intro @un_4_2 (And.intro @un_4_3 @un_4_4)) (And.intro @gv0 (And.intro @gv1 @gv2)))))) := (And.intro (And.intro (And.intro (And.intro (And.intro @mk0 @mk1) (And.intro @mk2 (And.intro @mk3 @mk4))) (And.intro (And.intro @mk5 (And.intro @mk6 @mk7)) (And.intro @mk8 (And.intro @mk9 @mk10)))) (And.intro (And.intro (And.intro @mk11 @mk12) (And.intro @mk13 (And.intro @mk14 @mk15))) (And.intro (And.intro @mk16 (And.intro @un_0_0 @un_0_1)) (And.intro @un_0_2 (And.intro @un_0_3 @un_0_4))))) (And.intro (And.intro (And.intro (And.intro @un_1_0 @un_1_1) (And.intro @un_1_2 (And.intro @un_1_3 @un_1_4))) (And.intro (And.intro @un_2_0 (And.intro @un_2_1 @un_2_2)) (And.intro @un_2_3 (And.intro @un_2_4 @un_3_0)))) (And.intro (And.intro (And.intro @un_3_1 (And.intro @un_3_2 @un_3_3)) (And.intro @un_3_4 (And.intro @un_4_0 @un_4_1))) (And.intro (And.intro @un_4_2 (And.intro @un_4_3 @un_4_4)) (And.intro @gv0 (And.intro @gv1 @gv2))))))
theorem F0t0_at {x : Slot} {xs : Sl} : ev Ph F0t0 (x :: xs) = ev Ph (.cmp .ne (.var 3) (.int 0)) (x :: xs) := rfl
theorem F0b0r0_at {n : Nat} {x : Slot} {xs : Sl} : runs Ph n F0b0r0 (x :: xs) = runs Ph n (.cons (.par 2 3 (.var 3) (.bin .mod (.var 2) (.var 3))) .nil) (x :: xs) := rfl
theorem F0r2_at {n : Nat} {x : Slot} {xs : Sl} : runs Ph n F0r2 (x :: xs) = runs Ph n (.cons (.ret (.var 2)) .nil) (x :: xs) := rfl
theorem F0r1_at {n : Nat} {x : Slot} {xs : Sl} : runs Ph n F0r1 (x :: xs) = runs Ph n (.cons (.whl F0t0 F0b0r0) F0r2) (x :: xs) := rfl
theorem F0r0_at {n : Nat} {x : Slot} {xs : Sl} : runs Ph n F0r0 (x :: xs) = runs Ph n (.cons (.par 2 3 (.blt .abs (.cons (.var 0) .nil)) (.blt .abs (.cons (.var 1) .nil))) F0r1) (x :: xs) := rfl
/-! divisor -/
theorem fn_divisor {a b : Int} : Ph.fn 0 [.int a, .int b] = some (.ok false (.int (Int.gcd a b)) []) := callP rfl (run_divisor Ph a b)
theorem divOk : GcdOk Ph 0 := ⟨fun _ _ => fn_divisor, rfl⟩

theorem F1b0r0_at {n : Nat} {x : Slot} {xs : Sl} : runs Ph n F1b0r0 (x :: xs) = runs Ph n (.cons (.asg (.nm 1) (.call 0 (.cons (.var 1) (.cons (.var 2) .nil)) [])) .nil) (x :: xs) := rfl
theorem F1c0_at {x : Slot} {xs : Sl} : ev Ph F1c0 (x :: xs) = ev Ph (.bin .fdiv (.var 2) (.var 1)) (x :: xs) := rfl
theorem F1r3_at {n : Nat} {x : Slot} {xs : Sl} : runs Ph n F1r3 (x :: xs) = runs Ph n (.cons (.ret (.blt .tuple (.cons (.lc F1c0 (.nm 2) (.e (.var 0)) .no [2]) .nil))) .nil) (x :: xs) := rfl
theorem F1r2_at {n : Nat} {x : Slot} {xs : Sl} : runs Ph n F1r2 (x :: xs) = runs Ph n (.cons (.ifs (.cmp .lt (.var 1) (.int 2)) (.cons (.ret (.blt .tuple (.cons (.var 0) .nil))) .nil) .nil) F1r3) (x :: xs) := rfl
theorem F1r1_at {n : Nat} {x : Slot} {xs : Sl} : runs Ph n F1r1 (x :: xs) = runs Ph n (.cons (.for_ (.nm 2) (.e (.var 0)) F1b0r0) F1r2) (x :: xs) := rfl
theorem F1r0_at {n : Nat} {x : Slot} {xs : Sl} : runs Ph n F1r0 (x :: xs) = runs Ph n (.cons (.asg (.nm 1) (.int 0)) F1r1) (x :: xs) := rfl
/-! lowest -/
theorem fn_lowestT {p : List Int} (h : okL p) : Ph.fn 1 [T p] = some (.ok false (T (lowL p)) []) := callP rfl (run_lowestL divOk (.inl rfl) h)
theorem fn_lowestL {p : List Int} (h : okL p) : Ph.fn 1 [Li p] = some (.ok false (T (lowL p)) []) := callP rfl (run_lowestL divOk (.inr rfl) h)
theorem lowLOk : LowLOk Ph 1 := ⟨fun _ h => fn_lowestT h, fun _ h => fn_lowestL h, rfl⟩

theorem F2r2_at {n : Nat} {x : Slot} {xs : Sl} : runs Ph n F2r2 (x :: xs) = runs Ph n (.cons (.ret (.call 1 (.cons (.tup (.cons (.neg (.var 0)) (.cons (.neg (.var 1)) .nil))) .nil) [])) .nil) (x :: xs) := rfl
theorem F2r1_at {n : Nat} {x : Slot} {xs : Sl} : runs Ph n F2r1 (x :: xs) = runs Ph n (.cons (.ifs (.cmp .gt (.var 1) (.int 0)) (.cons (.ret (.call 1 (.cons (.tup (.cons (.var 0) (.cons (.var 1) .nil))) .nil) [])) .nil) .nil) F2r2) (x :: xs) := rfl
theorem F2r0_at {n : Nat} {x : Slot} {xs : Sl} : runs Ph n F2r0 (x :: xs) = runs Ph n (.cons (.ifs (.cmp .eq (.var 1) (.int 0)) (.cons (.raisT 1) .nil) .nil) F2r1) (x :: xs) := rfl
/-! fraction -/
theorem lowOk2 : LowOk Ph 1 := ⟨fun _ _ h0 h1 => callP rfl (run_lowest2 divOk (.inl rfl) h0 h1), fun _ _ h0 h1 => callP rfl (run_lowest2 divOk (.inr rfl) h0 h1), rfl⟩
theorem fn_fraction {a b : Int} (hb : b ≠ 0) (hs : smal b) : Ph.fn 2 [.int a, .int b] = some (.ok false (T (frL a b)) []) := by
  obtain ⟨m, e⟩ := ok_fractionX (e := 1) lowOk2 (ds := [.int a, .int b]) (r := .ok false (T (frL a b)) []) (by simp [phFrX, gint2, hb, hs, T, frL, prD])
  exact callP rfl e

theorem F3c0_at {x : Slot} {xs : Sl} : ev Ph F3c0 (x :: xs) = ev Ph (.cmp .isin (.var 1) (.glb 0)) (x :: xs) := rfl
theorem F3r1_at {n : Nat} {x : Slot} {xs : Sl} : runs Ph n F3r1 (x :: xs) = runs Ph n (.cons (.ret (.blt .all (.cons (.lc F3c0 (.nm 1) (.e (.var 0)) .no [1]) .nil))) .nil) (x :: xs) := rfl
theorem F3r0_at {n : Nat} {x : Slot} {xs : Sl} : runs Ph n F3r0 (x :: xs) = runs Ph n (.cons (.ifs (.or (.cons (.cmp .eq (.blt .len (.cons (.var 0) .nil)) (.int 0)) (.cons (.cmp .gt (.blt .len (.cons (.var 0) .nil)) (.glb 1)) .nil))) (.cons (.ret (.bl false)) .nil) .nil) F3r1) (x :: xs) := rfl
/-! are_figures -/
theorem fFIG : Sx [48, 49, 50, 51, 52, 53, 54, 55, 56, 57] = Sx FIG := rfl
theorem fn_are_figures {l : List Nat} (hl : l.length ≤ 1000) : Ph.fn 3 [Sx l] = some (.ok false (.bool (figs l)) []) := by
  have e := lc_maps (vs := [1]) (bd := bindD (.nm 1)) (tst := fun s => Mi.R.ok true s) (el := fun s => ev Ph F3c0 s) (f := fun c => Sx [c]) (g := fun c => .bool (decide (c ∈ FIG))) (s := [.val (Sx l), .no]) l [] (fun c hc ds acc hl => by
    simp only [F3c0_at, fFIG, WW, WM, runs, runH, noX, evs, evo, evC, ofO, Vl.get, esc, escs, escM, brs, mskOk, backL, gets, vlOf, retV, bindV, seqO, zipO, List.all_cons, List.all_nil, List.any_cons, List.any_nil, id_eq, List.getElem?_cons_zero, List.getElem?_cons_succ, List.set_cons_zero, List.set_cons_succ, List.length_cons, List.length_nil, List.append_nil, List.nil_append, List.cons_append, List.map_cons, List.map_nil, Option.map_some, Option.map_none, Option.bind_some, Bool.not_true, Bool.not_false, Bool.and_true, Bool.true_and, Bool.and_false, Bool.false_and, Bool.or_false, Bool.or_true, Bool.true_or, Bool.false_or, Bool.false_eq_true, if_true, if_false, decide_true, decide_false, eq_self, List.mem_cons, true_or, or_true, List.take_succ_cons, List.take_zero, List.drop_succ_cons, List.drop_zero, List.dropLast_cons₂, List.dropLast_singleton, clean, wipeS, rstS, lcGo, forGo, List.getD_cons_zero, List.getD_cons_succ, List.contains_nil, boolOf, Nat.reduceAdd, Nat.reduceSub, Nat.reduceMul, Nat.reduceLT, Nat.reduceLeDiff, Nat.reduceEqDiff, Int.reduceAdd, Int.reduceSub, Int.reduceMul, Int.reduceNeg, Int.reduceLT, Int.reduceLE, Int.reduceEq, Int.reduceNe, Int.reducePow, Int.reduceToNat, reduceIte, reduceCtorEq, Int.cast_ofNat_Int, Int.natCast_add, Nat.zero_add, lt_sizeLine hl]) (by simpa using hl)
  rw [List.nil_append] at e
  have b : blsOf (l.map fun c => PyData.bool (decide (c ∈ FIG))) = some (l.map fun c => decide (c ∈ FIG)) := by
    have := blsOf_map (l.map fun c => decide (c ∈ FIG))
    rwa [List.map_map] at this
  have al : ((l.map fun c => decide (c ∈ FIG)).all id) = l.all fun c => decide (c ∈ FIG) := by
    rw [List.all_map]; rfl
  refine callP (n := 0) (f := F3) rfl (ans_of ?_)
  show Ans _ (runs Ph 0 F3r0 [.val (Sx l), .no]) _
  by_cases h0 : l.length = 0
  · have fg : figs l = false := by unfold figs; rw [decide_eq_false (by omega)]; rfl
    rw [fg]
    simp only [F3r0_at, F3r1_at, WW, WM, runs, runH, noX, evs, evo, evC, ofO, Vl.get, esc, escs, escM, brs, mskOk, backL, gets, vlOf, retV, bindV, seqO, zipO, List.all_cons, List.all_nil, List.any_cons, List.any_nil, id_eq, List.getElem?_cons_zero, List.getElem?_cons_succ, List.set_cons_zero, List.set_cons_succ, List.length_cons, List.length_nil, List.append_nil, List.nil_append, List.cons_append, List.map_cons, List.map_nil, Option.map_some, Option.map_none, Option.bind_some, Bool.not_true, Bool.not_false, Bool.and_true, Bool.true_and, Bool.and_false, Bool.false_and, Bool.or_false, Bool.or_true, Bool.true_or, Bool.false_or, Bool.false_eq_true, if_true, if_false, decide_true, decide_false, eq_self, List.mem_cons, true_or, or_true, List.take_succ_cons, List.take_zero, List.drop_succ_cons, List.drop_zero, List.dropLast_cons₂, List.dropLast_singleton, clean, wipeS, rstS, lcGo, forGo, List.getD_cons_zero, List.getD_cons_succ, List.contains_nil, boolOf, Nat.reduceAdd, Nat.reduceSub, Nat.reduceMul, Nat.reduceLT, Nat.reduceLeDiff, Nat.reduceEqDiff, Int.reduceAdd, Int.reduceSub, Int.reduceMul, Int.reduceNeg, Int.reduceLT, Int.reduceLE, Int.reduceEq, Int.reduceNe, Int.reducePow, Int.reduceToNat, reduceIte, reduceCtorEq, Int.cast_ofNat_Int, Int.natCast_add, Nat.zero_add, len_Sx hl, h0, Int.natCast_zero]
    exact ans_rt rfl
  · by_cases h1 : 60 < l.length
    · have fg : figs l = false := by unfold figs; rw [decide_eq_false (p := l.length ≤ 60) (by omega)]; simp
      rw [fg]
      have d1 : decide ((l.length : Int) = 0) = false := decide_eq_false (by omega)
      have d2 : decide ((60 : Int) < (l.length : Int)) = true := decide_eq_true (by omega)
      simp only [F3r0_at, F3r1_at, WW, WM, runs, runH, noX, evs, evo, evC, ofO, Vl.get, esc, escs, escM, brs, mskOk, backL, gets, vlOf, retV, bindV, seqO, zipO, List.all_cons, List.all_nil, List.any_cons, List.any_nil, id_eq, List.getElem?_cons_zero, List.getElem?_cons_succ, List.set_cons_zero, List.set_cons_succ, List.length_cons, List.length_nil, List.append_nil, List.nil_append, List.cons_append, List.map_cons, List.map_nil, Option.map_some, Option.map_none, Option.bind_some, Bool.not_true, Bool.not_false, Bool.and_true, Bool.true_and, Bool.and_false, Bool.false_and, Bool.or_false, Bool.or_true, Bool.true_or, Bool.false_or, Bool.false_eq_true, if_true, if_false, decide_true, decide_false, eq_self, List.mem_cons, true_or, or_true, List.take_succ_cons, List.take_zero, List.drop_succ_cons, List.drop_zero, List.dropLast_cons₂, List.dropLast_singleton, clean, wipeS, rstS, lcGo, forGo, List.getD_cons_zero, List.getD_cons_succ, List.contains_nil, boolOf, Nat.reduceAdd, Nat.reduceSub, Nat.reduceMul, Nat.reduceLT, Nat.reduceLeDiff, Nat.reduceEqDiff, Int.reduceAdd, Int.reduceSub, Int.reduceMul, Int.reduceNeg, Int.reduceLT, Int.reduceLE, Int.reduceEq, Int.reduceNe, Int.reducePow, Int.reduceToNat, reduceIte, reduceCtorEq, Int.cast_ofNat_Int, Int.natCast_add, Nat.zero_add, len_Sx hl, d1, d2]
      exact ans_rt rfl
    · have fg : figs l = l.all fun c => decide (c ∈ FIG) := by unfold figs; rw [decide_eq_true (by omega), decide_eq_true (by omega)]; simp
      rw [fg]
      have d1 : decide ((l.length : Int) = 0) = false := decide_eq_false (by omega)
      have d2 : decide ((60 : Int) < (l.length : Int)) = false := decide_eq_false (by omega)
      simp only [F3r0_at, F3r1_at, WW, WM, runs, runH, noX, evs, evo, evC, ofO, Vl.get, esc, escs, escM, brs, mskOk, backL, gets, vlOf, retV, bindV, seqO, zipO, List.all_cons, List.all_nil, List.any_cons, List.any_nil, id_eq, List.getElem?_cons_zero, List.getElem?_cons_succ, List.set_cons_zero, List.set_cons_succ, List.length_cons, List.length_nil, List.append_nil, List.nil_append, List.cons_append, List.map_cons, List.map_nil, Option.map_some, Option.map_none, Option.bind_some, Bool.not_true, Bool.not_false, Bool.and_true, Bool.true_and, Bool.and_false, Bool.false_and, Bool.or_false, Bool.or_true, Bool.true_or, Bool.false_or, Bool.false_eq_true, if_true, if_false, decide_true, decide_false, eq_self, List.mem_cons, true_or, or_true, List.take_succ_cons, List.take_zero, List.drop_succ_cons, List.drop_zero, List.dropLast_cons₂, List.dropLast_singleton, clean, wipeS, rstS, lcGo, forGo, List.getD_cons_zero, List.getD_cons_succ, List.contains_nil, boolOf, Nat.reduceAdd, Nat.reduceSub, Nat.reduceMul, Nat.reduceLT, Nat.reduceLeDiff, Nat.reduceEqDiff, Int.reduceAdd, Int.reduceSub, Int.reduceMul, Int.reduceNeg, Int.reduceLT, Int.reduceLE, Int.reduceEq, Int.reduceNe, Int.reducePow, Int.reduceToNat, reduceIte, reduceCtorEq, Int.cast_ofNat_Int, Int.natCast_add, Nat.zero_add, len_Sx hl, d1, d2, e, b, al]
      exact ans_rt rfl

theorem F4r3_at {n : Nat} {x : Slot} {xs : Sl} : runs Ph n F4r3 (x :: xs) = runs Ph n (.cons (.ret (.bin .add (.bin .add (.blt .str (.cons (.var 1) .nil)) (.str (SX.S [47]))) (.blt .str (.cons (.var 2) .nil)))) .nil) (x :: xs) := rfl
theorem F4r2_at {n : Nat} {x : Slot} {xs : Sl} : runs Ph n F4r2 (x :: xs) = runs Ph n (.cons (.ifs (.cmp .eq (.var 2) (.int 1)) (.cons (.ret (.blt .str (.cons (.var 1) .nil))) .nil) .nil) F4r3) (x :: xs) := rfl
theorem F4r1_at {n : Nat} {x : Slot} {xs : Sl} : runs Ph n F4r1 (x :: xs) = runs Ph n (.cons (.ifs (.or (.cons (.cmp .ge (.blt .abs (.cons (.var 1) .nil)) (.glb 2)) (.cons (.cmp .ge (.var 2) (.glb 2)) .nil))) (.cons (.raisT 3) .nil) .nil) F4r2) (x :: xs) := rfl
theorem F4r0_at {n : Nat} {x : Slot} {xs : Sl} : runs Ph n F4r0 (x :: xs) = runs Ph n (.cons (.asg (.tp (.cons (.nm 1) (.cons (.nm 2) .nil))) (.var 0)) F4r1) (x :: xs) := rfl
/-! shown_number -/
theorem log60 {t : Int} (h : (t.natAbs : Int) < 1000000000000000000000000000000000000000000000000000000000000) : t.natAbs.log2 < 1920 := by
  refine Nat.lt_of_le_of_lt (log2_le (k := 200) (Nat.lt_of_lt_of_le (m := 1000000000000000000000000000000000000000000000000000000000000) (by omega) (by decide))) (by decide)
theorem numZ_len {t : Int} (h : (t.natAbs : Int) < 1000000000000000000000000000000000000000000000000000000000000) : (numZ t).length ≤ 61 := by
  have := TL.numL_len (n := t.natAbs) (k := 60) (by decide) (by
    have : (10 : Nat) ^ 60 = 1000000000000000000000000000000000000000000000000000000000000 := by decide
    omega)
  unfold numZ
  split
  · simp only [List.length_cons]; omega
  · omega
theorem fn_shown_number {t b : Int} (hb : 0 < b) : Ph.fn 4 [T [t, b]] = some (if (t.natAbs : Int) < 1000000000000000000000000000000000000000000000000000000000000 ∧ b < 1000000000000000000000000000000000000000000000000000000000000 then .ok false (Sx (shN t b)) [] else .ex 3 [] []) := by
  refine callP (n := 0) (f := F4) rfl (ans_of ?_)
  show Ans _ (runs Ph 0 F4r0 [.val (T [t, b]), .no, .no]) _
  by_cases h1 : (t.natAbs : Int) < 1000000000000000000000000000000000000000000000000000000000000
  · have d1 : decide ((1000000000000000000000000000000000000000000000000000000000000 : Int) ≤ (t.natAbs : Int)) = false := decide_eq_false (by omega)
    by_cases h2 : b < 1000000000000000000000000000000000000000000000000000000000000
    · have d2 : decide ((1000000000000000000000000000000000000000000000000000000000000 : Int) ≤ b) = false := decide_eq_false (by omega)
      rw [if_pos ⟨h1, h2⟩]
      have st := str_Z (log60 h1)
      have sb := str_Z (n := b) (log60 (by omega))
      have l1 := numZ_len h1
      have l2 := numZ_len (t := b) (by omega)
      have a1 := add_Sx (a := numZ t) (b := [47]) (by simp only [List.length_cons, List.length_nil]; omega)
      have a2 := add_Sx (a := numZ t ++ [47]) (b := numZ b) (by simp only [List.length_append, List.length_cons, List.length_nil]; omega)
      unfold shN
      by_cases h3 : b = 1
      · subst h3
        simp only [F4r3_at, F4r2_at, F4r1_at, F4r0_at, WW, WM, runs, runH, noX, evs, evo, evC, ofO, Vl.get, esc, escs, escM, brs, mskOk, backL, gets, vlOf, retV, bindV, seqO, zipO, List.all_cons, List.all_nil, List.any_cons, List.any_nil, id_eq, List.getElem?_cons_zero, List.getElem?_cons_succ, List.set_cons_zero, List.set_cons_succ, List.length_cons, List.length_nil, List.append_nil, List.nil_append, List.cons_append, List.map_cons, List.map_nil, Option.map_some, Option.map_none, Option.bind_some, Bool.not_true, Bool.not_false, Bool.and_true, Bool.true_and, Bool.and_false, Bool.false_and, Bool.or_false, Bool.or_true, Bool.true_or, Bool.false_or, Bool.false_eq_true, if_true, if_false, decide_true, decide_false, eq_self, List.mem_cons, true_or, or_true, List.take_succ_cons, List.take_zero, List.drop_succ_cons, List.drop_zero, List.dropLast_cons₂, List.dropLast_singleton, clean, wipeS, rstS, lcGo, forGo, List.getD_cons_zero, List.getD_cons_succ, List.contains_nil, boolOf, Nat.reduceAdd, Nat.reduceSub, Nat.reduceMul, Nat.reduceLT, Nat.reduceLeDiff, Nat.reduceEqDiff, Int.reduceAdd, Int.reduceSub, Int.reduceMul, Int.reduceNeg, Int.reduceLT, Int.reduceLE, Int.reduceEq, Int.reduceNe, Int.reducePow, Int.reduceToNat, reduceIte, reduceCtorEq, Int.cast_ofNat_Int, Int.natCast_add, Nat.zero_add, d1, d2, st]
        exact ans_rt rfl
      · rw [if_neg h3]
        have d3 : decide (b = 1) = false := decide_eq_false h3
        simp only [F4r3_at, F4r2_at, F4r1_at, F4r0_at, WW, WM, runs, runH, noX, evs, evo, evC, ofO, Vl.get, esc, escs, escM, brs, mskOk, backL, gets, vlOf, retV, bindV, seqO, zipO, List.all_cons, List.all_nil, List.any_cons, List.any_nil, id_eq, List.getElem?_cons_zero, List.getElem?_cons_succ, List.set_cons_zero, List.set_cons_succ, List.length_cons, List.length_nil, List.append_nil, List.nil_append, List.cons_append, List.map_cons, List.map_nil, Option.map_some, Option.map_none, Option.bind_some, Bool.not_true, Bool.not_false, Bool.and_true, Bool.true_and, Bool.and_false, Bool.false_and, Bool.or_false, Bool.or_true, Bool.true_or, Bool.false_or, Bool.false_eq_true, if_true, if_false, decide_true, decide_false, eq_self, List.mem_cons, true_or, or_true, List.take_succ_cons, List.take_zero, List.drop_succ_cons, List.drop_zero, List.dropLast_cons₂, List.dropLast_singleton, clean, wipeS, rstS, lcGo, forGo, List.getD_cons_zero, List.getD_cons_succ, List.contains_nil, boolOf, Nat.reduceAdd, Nat.reduceSub, Nat.reduceMul, Nat.reduceLT, Nat.reduceLeDiff, Nat.reduceEqDiff, Int.reduceAdd, Int.reduceSub, Int.reduceMul, Int.reduceNeg, Int.reduceLT, Int.reduceLE, Int.reduceEq, Int.reduceNe, Int.reducePow, Int.reduceToNat, reduceIte, reduceCtorEq, Int.cast_ofNat_Int, Int.natCast_add, Nat.zero_add, d1, d2, d3, st, sb, a1, a2]
        rw [List.append_assoc]
        exact ans_rt rfl
    · have d2 : decide ((1000000000000000000000000000000000000000000000000000000000000 : Int) ≤ b) = true := decide_eq_true (by omega)
      rw [if_neg (fun h => h2 h.2)]
      simp only [F4r3_at, F4r2_at, F4r1_at, F4r0_at, WW, WM, runs, runH, noX, evs, evo, evC, ofO, Vl.get, esc, escs, escM, brs, mskOk, backL, gets, vlOf, retV, bindV, seqO, zipO, List.all_cons, List.all_nil, List.any_cons, List.any_nil, id_eq, List.getElem?_cons_zero, List.getElem?_cons_succ, List.set_cons_zero, List.set_cons_succ, List.length_cons, List.length_nil, List.append_nil, List.nil_append, List.cons_append, List.map_cons, List.map_nil, Option.map_some, Option.map_none, Option.bind_some, Bool.not_true, Bool.not_false, Bool.and_true, Bool.true_and, Bool.and_false, Bool.false_and, Bool.or_false, Bool.or_true, Bool.true_or, Bool.false_or, Bool.false_eq_true, if_true, if_false, decide_true, decide_false, eq_self, List.mem_cons, true_or, or_true, List.take_succ_cons, List.take_zero, List.drop_succ_cons, List.drop_zero, List.dropLast_cons₂, List.dropLast_singleton, clean, wipeS, rstS, lcGo, forGo, List.getD_cons_zero, List.getD_cons_succ, List.contains_nil, boolOf, Nat.reduceAdd, Nat.reduceSub, Nat.reduceMul, Nat.reduceLT, Nat.reduceLeDiff, Nat.reduceEqDiff, Int.reduceAdd, Int.reduceSub, Int.reduceMul, Int.reduceNeg, Int.reduceLT, Int.reduceLE, Int.reduceEq, Int.reduceNe, Int.reducePow, Int.reduceToNat, reduceIte, reduceCtorEq, Int.cast_ofNat_Int, Int.natCast_add, Nat.zero_add, d1, d2]
      exact ans_ex rfl
  · have d1 : decide ((1000000000000000000000000000000000000000000000000000000000000 : Int) ≤ (t.natAbs : Int)) = true := decide_eq_true (by omega)
    rw [if_neg (fun h => h1 h.1)]
    simp only [F4r3_at, F4r2_at, F4r1_at, F4r0_at, WW, WM, runs, runH, noX, evs, evo, evC, ofO, Vl.get, esc, escs, escM, brs, mskOk, backL, gets, vlOf, retV, bindV, seqO, zipO, List.all_cons, List.all_nil, List.any_cons, List.any_nil, id_eq, List.getElem?_cons_zero, List.getElem?_cons_succ, List.set_cons_zero, List.set_cons_succ, List.length_cons, List.length_nil, List.append_nil, List.nil_append, List.cons_append, List.map_cons, List.map_nil, Option.map_some, Option.map_none, Option.bind_some, Bool.not_true, Bool.not_false, Bool.and_true, Bool.true_and, Bool.and_false, Bool.false_and, Bool.or_false, Bool.or_true, Bool.true_or, Bool.false_or, Bool.false_eq_true, if_true, if_false, decide_true, decide_false, eq_self, List.mem_cons, true_or, or_true, List.take_succ_cons, List.take_zero, List.drop_succ_cons, List.drop_zero, List.dropLast_cons₂, List.dropLast_singleton, clean, wipeS, rstS, lcGo, forGo, List.getD_cons_zero, List.getD_cons_succ, List.contains_nil, boolOf, Nat.reduceAdd, Nat.reduceSub, Nat.reduceMul, Nat.reduceLT, Nat.reduceLeDiff, Nat.reduceEqDiff, Int.reduceAdd, Int.reduceSub, Int.reduceMul, Int.reduceNeg, Int.reduceLT, Int.reduceLE, Int.reduceEq, Int.reduceNe, Int.reducePow, Int.reduceToNat, reduceIte, reduceCtorEq, Int.cast_ofNat_Int, Int.natCast_add, Nat.zero_add, d1]
    exact ans_ex rfl

theorem F5r9_at {n : Nat} {x : Slot} {xs : Sl} : runs Ph n F5r9 (x :: xs) = runs Ph n (.cons (.ret (.call 2 (.cons (.var 3) (.cons (.var 4) .nil)) [])) .nil) (x :: xs) := rfl
theorem F5r8_at {n : Nat} {x : Slot} {xs : Sl} : runs Ph n F5r8 (x :: xs) = runs Ph n (.cons (.ifs (.cmp .eq (.slc (.var 0) .no (.so (.int 1))) (.str (SX.S [45]))) (.cons (.ret (.call 2 (.cons (.neg (.var 3)) (.cons (.var 4) .nil)) [])) .nil) .nil) F5r9) (x :: xs) := rfl
theorem F5r7_at {n : Nat} {x : Slot} {xs : Sl} : runs Ph n F5r7 (x :: xs) = runs Ph n (.cons (.ifs (.cmp .eq (.var 4) (.int 0)) (.cons (.raisT 2) .nil) .nil) F5r8) (x :: xs) := rfl
theorem F5r6_at {n : Nat} {x : Slot} {xs : Sl} : runs Ph n F5r6 (x :: xs) = runs Ph n (.cons (.asg (.nm 4) (.blt .int (.cons (.ix (.var 2) (.int 1)) .nil))) F5r7) (x :: xs) := rfl
theorem F5r5_at {n : Nat} {x : Slot} {xs : Sl} : runs Ph n F5r5 (x :: xs) = runs Ph n (.cons (.asg (.nm 3) (.blt .int (.cons (.ix (.var 2) (.int 0)) .nil))) F5r6) (x :: xs) := rfl
theorem F5r4_at {n : Nat} {x : Slot} {xs : Sl} : runs Ph n F5r4 (x :: xs) = runs Ph n (.cons (.ifs (.or (.cons (.cmp .ne (.blt .len (.cons (.var 2) .nil)) (.int 2)) (.cons (.not (.call 3 (.cons (.ix (.var 2) (.int 0)) .nil) [])) (.cons (.not (.call 3 (.cons (.ix (.var 2) (.int 1)) .nil) [])) .nil)))) (.cons (.raisT 2) .nil) .nil) F5r5) (x :: xs) := rfl
theorem F5r3_at {n : Nat} {x : Slot} {xs : Sl} : runs Ph n F5r3 (x :: xs) = runs Ph n (.cons (.ifs (.cmp .eq (.blt .len (.cons (.var 2) .nil)) (.int 1)) (.cons (.expr (.mth .append 2 (.cons (.str (SX.S [49])) .nil))) .nil) .nil) F5r4) (x :: xs) := rfl
theorem F5r2_at {n : Nat} {x : Slot} {xs : Sl} : runs Ph n F5r2 (x :: xs) = runs Ph n (.cons (.asg (.nm 2) (.tx .split (.var 1) (.str (SX.S [47])))) F5r3) (x :: xs) := rfl
theorem F5r1_at {n : Nat} {x : Slot} {xs : Sl} : runs Ph n F5r1 (x :: xs) = runs Ph n (.cons (.ifs (.cmp .eq (.slc (.var 0) .no (.so (.int 1))) (.str (SX.S [45]))) (.cons (.asg (.nm 1) (.slc (.var 0) (.so (.int 1)) .no)) .nil) .nil) F5r2) (x :: xs) := rfl
theorem F5r0_at {n : Nat} {x : Slot} {xs : Sl} : runs Ph n F5r0 (x :: xs) = runs Ph n (.cons (.asg (.nm 1) (.var 0)) F5r1) (x :: xs) := rfl
/-! read_number -/
def rnA (l : List Nat) : List (List Nat) → Ret
  | [p, q] => if figs p = true ∧ figs q = true ∧ NumText.digitsVal q ≠ 0 then .ok false (T (frL (if l.take 1 = [45] then -((NumText.digitsVal p : Nat) : Int) else ((NumText.digitsVal p : Nat) : Int)) ((NumText.digitsVal q : Nat) : Int))) [] else .ex 2 [] []
  | _ => .ex 2 [] []
theorem rn_rest {l w : List Nat} (hl : l.length ≤ 900) (hc : Cps l) (P : List (List Nat)) (hP : ∀ p ∈ P, p.length ≤ 900) :
    Ans F5 (runs Ph 0 F5r4 [.val (Sx l), .val (Sx w), .own false (LSx P), .no, .no]) (rnA l P) := by
  by_cases h2 : P.length = 2
  · obtain ⟨p, q, rfl⟩ : ∃ p q, P = [p, q] := by
      match P, h2 with
      | [p, q], _ => exact ⟨p, q, rfl⟩
    have hp := hP p (by simp)
    have hq := hP q (by simp)
    have fp := fn_are_figures (l := p) (by omega)
    have fq := fn_are_figures (l := q) (by omega)
    simp only [rnA]
    by_cases gp : figs p = true
    · by_cases gq : figs q = true
      · rw [gp] at fp
        rw [gq] at fq
        obtain ⟨d1, n1, l1⟩ := figs_ok gp
        obtain ⟨d2, n2, l2⟩ := figs_ok gq
        have i1 := int_D d1 n1 (by omega)
        have i2 := int_D d2 n2 (by omega)
        have b1 := figs_lt gp
        have b2 := figs_lt gq
        by_cases z : NumText.digitsVal q = 0
        · rw [if_neg (fun h => h.2.2 z)]
          rw [z] at i2
          simp only [F5r9_at, F5r8_at, F5r7_at, F5r6_at, F5r5_at, F5r4_at, F5r3_at, F5r2_at, F5r1_at, F5r0_at, WW, WM, runs, runH, noX, evs, evo, evC, ofO, Vl.get, esc, escs, escM, brs, mskOk, backL, gets, vlOf, retV, bindV, seqO, zipO, List.all_cons, List.all_nil, List.any_cons, List.any_nil, id_eq, List.getElem?_cons_zero, List.getElem?_cons_succ, List.set_cons_zero, List.set_cons_succ, List.length_cons, List.length_nil, List.append_nil, List.nil_append, List.cons_append, List.map_cons, List.map_nil, Option.map_some, Option.map_none, Option.bind_some, Bool.not_true, Bool.not_false, Bool.and_true, Bool.true_and, Bool.and_false, Bool.false_and, Bool.or_false, Bool.or_true, Bool.true_or, Bool.false_or, Bool.false_eq_true, if_true, if_false, decide_true, decide_false, eq_self, List.mem_cons, true_or, or_true, List.take_succ_cons, List.take_zero, List.drop_succ_cons, List.drop_zero, List.dropLast_cons₂, List.dropLast_singleton, clean, wipeS, rstS, lcGo, forGo, List.getD_cons_zero, List.getD_cons_succ, List.contains_nil, boolOf, Nat.reduceAdd, Nat.reduceSub, Nat.reduceMul, Nat.reduceLT, Nat.reduceLeDiff, Nat.reduceEqDiff, Int.reduceAdd, Int.reduceSub, Int.reduceMul, Int.reduceNeg, Int.reduceLT, Int.reduceLE, Int.reduceEq, Int.reduceNe, Int.reducePow, Int.reduceToNat, reduceIte, reduceCtorEq, Int.cast_ofNat_Int, Int.natCast_add, Nat.zero_add, fp, fq, i1, i2, Int.natCast_zero]
          exact ans_ex rfl
        · rw [if_pos ⟨gp, gq, z⟩]
          have z2 : decide ((((NumText.digitsVal q : Nat)) : Int) = 0) = false := decide_eq_false (by omega)
          have sm : smal ((NumText.digitsVal q : Nat) : Int) := smal250 (Nat.lt_of_lt_of_le (m := 10 ^ 60) (by omega) (by decide))
          have fr1 := fun t => fn_fraction (a := t) (b := ((NumText.digitsVal q : Nat) : Int)) (by omega) sm
          have ct := slc_Sx (a := l) (lo := none) (hi := some 1) (by omega)
          rw [cutL_t1] at ct
          have eb := eqB_Sx (a := l.take 1) (b := [45]) (cps_sub hc (fun c hx => List.mem_of_mem_take hx)) (cps_cons (by decide) cps_nil)
          by_cases m : l.take 1 = [45]
          · rw [decide_eq_true m] at eb
            rw [if_pos m]
            simp only [F5r9_at, F5r8_at, F5r7_at, F5r6_at, F5r5_at, F5r4_at, F5r3_at, F5r2_at, F5r1_at, F5r0_at, WW, WM, runs, runH, noX, evs, evo, evC, ofO, Vl.get, esc, escs, escM, brs, mskOk, backL, gets, vlOf, retV, bindV, seqO, zipO, List.all_cons, List.all_nil, List.any_cons, List.any_nil, id_eq, List.getElem?_cons_zero, List.getElem?_cons_succ, List.set_cons_zero, List.set_cons_succ, List.length_cons, List.length_nil, List.append_nil, List.nil_append, List.cons_append, List.map_cons, List.map_nil, Option.map_some, Option.map_none, Option.bind_some, Bool.not_true, Bool.not_false, Bool.and_true, Bool.true_and, Bool.and_false, Bool.false_and, Bool.or_false, Bool.or_true, Bool.true_or, Bool.false_or, Bool.false_eq_true, if_true, if_false, decide_true, decide_false, eq_self, List.mem_cons, true_or, or_true, List.take_succ_cons, List.take_zero, List.drop_succ_cons, List.drop_zero, List.dropLast_cons₂, List.dropLast_singleton, clean, wipeS, rstS, lcGo, forGo, List.getD_cons_zero, List.getD_cons_succ, List.contains_nil, boolOf, Nat.reduceAdd, Nat.reduceSub, Nat.reduceMul, Nat.reduceLT, Nat.reduceLeDiff, Nat.reduceEqDiff, Int.reduceAdd, Int.reduceSub, Int.reduceMul, Int.reduceNeg, Int.reduceLT, Int.reduceLE, Int.reduceEq, Int.reduceNe, Int.reducePow, Int.reduceToNat, reduceIte, reduceCtorEq, Int.cast_ofNat_Int, Int.natCast_add, Nat.zero_add, fp, fq, i1, i2, z2, ct, eb, fr1]
            exact ans_rt rfl
          · rw [decide_eq_false m] at eb
            rw [if_neg m]
            simp only [F5r9_at, F5r8_at, F5r7_at, F5r6_at, F5r5_at, F5r4_at, F5r3_at, F5r2_at, F5r1_at, F5r0_at, WW, WM, runs, runH, noX, evs, evo, evC, ofO, Vl.get, esc, escs, escM, brs, mskOk, backL, gets, vlOf, retV, bindV, seqO, zipO, List.all_cons, List.all_nil, List.any_cons, List.any_nil, id_eq, List.getElem?_cons_zero, List.getElem?_cons_succ, List.set_cons_zero, List.set_cons_succ, List.length_cons, List.length_nil, List.append_nil, List.nil_append, List.cons_append, List.map_cons, List.map_nil, Option.map_some, Option.map_none, Option.bind_some, Bool.not_true, Bool.not_false, Bool.and_true, Bool.true_and, Bool.and_false, Bool.false_and, Bool.or_false, Bool.or_true, Bool.true_or, Bool.false_or, Bool.false_eq_true, if_true, if_false, decide_true, decide_false, eq_self, List.mem_cons, true_or, or_true, List.take_succ_cons, List.take_zero, List.drop_succ_cons, List.drop_zero, List.dropLast_cons₂, List.dropLast_singleton, clean, wipeS, rstS, lcGo, forGo, List.getD_cons_zero, List.getD_cons_succ, List.contains_nil, boolOf, Nat.reduceAdd, Nat.reduceSub, Nat.reduceMul, Nat.reduceLT, Nat.reduceLeDiff, Nat.reduceEqDiff, Int.reduceAdd, Int.reduceSub, Int.reduceMul, Int.reduceNeg, Int.reduceLT, Int.reduceLE, Int.reduceEq, Int.reduceNe, Int.reducePow, Int.reduceToNat, reduceIte, reduceCtorEq, Int.cast_ofNat_Int, Int.natCast_add, Nat.zero_add, fp, fq, i1, i2, z2, ct, eb, fr1]
            exact ans_rt rfl
      · rw [if_neg (fun h => gq h.2.1)]
        rw [gp] at fp
        rw [Bool.eq_false_iff.mpr gq] at fq
        simp only [F5r9_at, F5r8_at, F5r7_at, F5r6_at, F5r5_at, F5r4_at, F5r3_at, F5r2_at, F5r1_at, F5r0_at, WW, WM, runs, runH, noX, evs, evo, evC, ofO, Vl.get, esc, escs, escM, brs, mskOk, backL, gets, vlOf, retV, bindV, seqO, zipO, List.all_cons, List.all_nil, List.any_cons, List.any_nil, id_eq, List.getElem?_cons_zero, List.getElem?_cons_succ, List.set_cons_zero, List.set_cons_succ, List.length_cons, List.length_nil, List.append_nil, List.nil_append, List.cons_append, List.map_cons, List.map_nil, Option.map_some, Option.map_none, Option.bind_some, Bool.not_true, Bool.not_false, Bool.and_true, Bool.true_and, Bool.and_false, Bool.false_and, Bool.or_false, Bool.or_true, Bool.true_or, Bool.false_or, Bool.false_eq_true, if_true, if_false, decide_true, decide_false, eq_self, List.mem_cons, true_or, or_true, List.take_succ_cons, List.take_zero, List.drop_succ_cons, List.drop_zero, List.dropLast_cons₂, List.dropLast_singleton, clean, wipeS, rstS, lcGo, forGo, List.getD_cons_zero, List.getD_cons_succ, List.contains_nil, boolOf, Nat.reduceAdd, Nat.reduceSub, Nat.reduceMul, Nat.reduceLT, Nat.reduceLeDiff, Nat.reduceEqDiff, Int.reduceAdd, Int.reduceSub, Int.reduceMul, Int.reduceNeg, Int.reduceLT, Int.reduceLE, Int.reduceEq, Int.reduceNe, Int.reducePow, Int.reduceToNat, reduceIte, reduceCtorEq, Int.cast_ofNat_Int, Int.natCast_add, Nat.zero_add, fp, fq]
        exact ans_ex rfl
    · rw [if_neg (fun h => gp h.1)]
      rw [Bool.eq_false_iff.mpr gp] at fp
      simp only [F5r9_at, F5r8_at, F5r7_at, F5r6_at, F5r5_at, F5r4_at, F5r3_at, F5r2_at, F5r1_at, F5r0_at, WW, WM, runs, runH, noX, evs, evo, evC, ofO, Vl.get, esc, escs, escM, brs, mskOk, backL, gets, vlOf, retV, bindV, seqO, zipO, List.all_cons, List.all_nil, List.any_cons, List.any_nil, id_eq, List.getElem?_cons_zero, List.getElem?_cons_succ, List.set_cons_zero, List.set_cons_succ, List.length_cons, List.length_nil, List.append_nil, List.nil_append, List.cons_append, List.map_cons, List.map_nil, Option.map_some, Option.map_none, Option.bind_some, Bool.not_true, Bool.not_false, Bool.and_true, Bool.true_and, Bool.and_false, Bool.false_and, Bool.or_false, Bool.or_true, Bool.true_or, Bool.false_or, Bool.false_eq_true, if_true, if_false, decide_true, decide_false, eq_self, List.mem_cons, true_or, or_true, List.take_succ_cons, List.take_zero, List.drop_succ_cons, List.drop_zero, List.dropLast_cons₂, List.dropLast_singleton, clean, wipeS, rstS, lcGo, forGo, List.getD_cons_zero, List.getD_cons_succ, List.contains_nil, boolOf, Nat.reduceAdd, Nat.reduceSub, Nat.reduceMul, Nat.reduceLT, Nat.reduceLeDiff, Nat.reduceEqDiff, Int.reduceAdd, Int.reduceSub, Int.reduceMul, Int.reduceNeg, Int.reduceLT, Int.reduceLE, Int.reduceEq, Int.reduceNe, Int.reducePow, Int.reduceToNat, reduceIte, reduceCtorEq, Int.cast_ofNat_Int, Int.natCast_add, Nat.zero_add, fp]
      exact ans_ex rfl
  · have d : decide ((P.length : Int) = 2) = false := decide_eq_false (by omega)
    have e : rnA l P = .ex 2 [] [] := by
      unfold rnA
      split
      · simp at h2
      · rfl
    rw [e]
    simp only [F5r9_at, F5r8_at, F5r7_at, F5r6_at, F5r5_at, F5r4_at, F5r3_at, F5r2_at, F5r1_at, F5r0_at, WW, WM, runs, runH, noX, evs, evo, evC, ofO, Vl.get, esc, escs, escM, brs, mskOk, backL, gets, vlOf, retV, bindV, seqO, zipO, List.all_cons, List.all_nil, List.any_cons, List.any_nil, id_eq, List.getElem?_cons_zero, List.getElem?_cons_succ, List.set_cons_zero, List.set_cons_succ, List.length_cons, List.length_nil, List.append_nil, List.nil_append, List.cons_append, List.map_cons, List.map_nil, Option.map_some, Option.map_none, Option.bind_some, Bool.not_true, Bool.not_false, Bool.and_true, Bool.true_and, Bool.and_false, Bool.false_and, Bool.or_false, Bool.or_true, Bool.true_or, Bool.false_or, Bool.false_eq_true, if_true, if_false, decide_true, decide_false, eq_self, List.mem_cons, true_or, or_true, List.take_succ_cons, List.take_zero, List.drop_succ_cons, List.drop_zero, List.dropLast_cons₂, List.dropLast_singleton, clean, wipeS, rstS, lcGo, forGo, List.getD_cons_zero, List.getD_cons_succ, List.contains_nil, boolOf, Nat.reduceAdd, Nat.reduceSub, Nat.reduceMul, Nat.reduceLT, Nat.reduceLeDiff, Nat.reduceEqDiff, Int.reduceAdd, Int.reduceSub, Int.reduceMul, Int.reduceNeg, Int.reduceLT, Int.reduceLE, Int.reduceEq, Int.reduceNe, Int.reducePow, Int.reduceToNat, reduceIte, reduceCtorEq, Int.cast_ofNat_Int, Int.natCast_add, Nat.zero_add, d]
    exact ans_ex rfl
def retN (o : Option (Int × Int)) : Ret := match o with
  | some f => .ok false (T [f.1, f.2]) []
  | none => .ex 2 [] []
theorem rn_parts {l w : List Nat} (hl : l.length ≤ 900) (hc : Cps l) (hw : w = if l.take 1 = [45] then l.drop 1 else l) (hq : ∀ p ∈ splC 47 w, p.length ≤ 900) (hn : (splC 47 w).length < 1000) :
    Ans F5 (runs Ph 0 F5r3 [.val (Sx l), .val (Sx w), .own false (LSx (splC 47 w)), .no, .no]) (retN (rdN l)) := by
  unfold rdN
  rw [← hw]
  generalize splC 47 w = P at *
  by_cases h1 : P.length = 1
  · obtain ⟨p, rfl⟩ := List.length_eq_one_iff.mp h1
    have e := rn_rest (w := w) hl hc ([p] ++ [[49]]) (fun x hx => by
      rcases List.mem_append.mp hx with q | q
      · exact hq x q
      · rw [List.mem_singleton.mp q]; decide)
    have ap := app_LSx (l := [p]) (p := [49]) (by simp)
    have st : runs Ph 0 F5r3 [.val (Sx l), .val (Sx w), .own false (LSx [p]), .no, .no] = runs Ph 0 F5r4 [.val (Sx l), .val (Sx w), .own false (LSx ([p] ++ [[49]])), .no, .no] := by
      simp only [F5r3_at, WW, WM, runs, runH, noX, evs, evo, evC, ofO, Vl.get, esc, escs, escM, brs, mskOk, backL, gets, vlOf, retV, bindV, seqO, zipO, List.all_cons, List.all_nil, List.any_cons, List.any_nil, id_eq, List.getElem?_cons_zero, List.getElem?_cons_succ, List.set_cons_zero, List.set_cons_succ, List.length_cons, List.length_nil, List.append_nil, List.nil_append, List.cons_append, List.map_cons, List.map_nil, Option.map_some, Option.map_none, Option.bind_some, Bool.not_true, Bool.not_false, Bool.and_true, Bool.true_and, Bool.and_false, Bool.false_and, Bool.or_false, Bool.or_true, Bool.true_or, Bool.false_or, Bool.false_eq_true, if_true, if_false, decide_true, decide_false, eq_self, List.mem_cons, true_or, or_true, List.take_succ_cons, List.take_zero, List.drop_succ_cons, List.drop_zero, List.dropLast_cons₂, List.dropLast_singleton, clean, wipeS, rstS, lcGo, forGo, List.getD_cons_zero, List.getD_cons_succ, List.contains_nil, boolOf, Nat.reduceAdd, Nat.reduceSub, Nat.reduceMul, Nat.reduceLT, Nat.reduceLeDiff, Nat.reduceEqDiff, Int.reduceAdd, Int.reduceSub, Int.reduceMul, Int.reduceNeg, Int.reduceLT, Int.reduceLE, Int.reduceEq, Int.reduceNe, Int.reducePow, Int.reduceToNat, reduceIte, reduceCtorEq, Int.cast_ofNat_Int, Int.natCast_add, Nat.zero_add, ap]
    rw [st]
    have f1 : figs [49] = true := by decide
    have v1 : NumText.digitsVal [49] = 1 := by decide
    simp only [rnA, List.cons_append, List.nil_append, f1, v1, true_and] at e
    by_cases gp : figs p = true
    · rw [if_pos ⟨gp, by decide⟩] at e
      simp only [gp, if_true]
      exact e
    · rw [if_neg (fun h => gp h.1)] at e
      simp only [gp]
      exact e
  · have d : decide ((P.length : Int) = 1) = false := decide_eq_false (by omega)
    have st : runs Ph 0 F5r3 [.val (Sx l), .val (Sx w), .own false (LSx P), .no, .no] = runs Ph 0 F5r4 [.val (Sx l), .val (Sx w), .own false (LSx P), .no, .no] := by
      simp only [F5r3_at, WW, WM, runs, runH, noX, evs, evo, evC, ofO, Vl.get, esc, escs, escM, brs, mskOk, backL, gets, vlOf, retV, bindV, seqO, zipO, List.all_cons, List.all_nil, List.any_cons, List.any_nil, id_eq, List.getElem?_cons_zero, List.getElem?_cons_succ, List.set_cons_zero, List.set_cons_succ, List.length_cons, List.length_nil, List.append_nil, List.nil_append, List.cons_append, List.map_cons, List.map_nil, Option.map_some, Option.map_none, Option.bind_some, Bool.not_true, Bool.not_false, Bool.and_true, Bool.true_and, Bool.and_false, Bool.false_and, Bool.or_false, Bool.or_true, Bool.true_or, Bool.false_or, Bool.false_eq_true, if_true, if_false, decide_true, decide_false, eq_self, List.mem_cons, true_or, or_true, List.take_succ_cons, List.take_zero, List.drop_succ_cons, List.drop_zero, List.dropLast_cons₂, List.dropLast_singleton, clean, wipeS, rstS, lcGo, forGo, List.getD_cons_zero, List.getD_cons_succ, List.contains_nil, boolOf, Nat.reduceAdd, Nat.reduceSub, Nat.reduceMul, Nat.reduceLT, Nat.reduceLeDiff, Nat.reduceEqDiff, Int.reduceAdd, Int.reduceSub, Int.reduceMul, Int.reduceNeg, Int.reduceLT, Int.reduceLE, Int.reduceEq, Int.reduceNe, Int.reducePow, Int.reduceToNat, reduceIte, reduceCtorEq, Int.cast_ofNat_Int, Int.natCast_add, Nat.zero_add, d]
    rw [st]
    have e := rn_rest (w := w) hl hc P hq
    revert e
    match P, h1 with
    | [], _ => exact fun e => e
    | [p, q], _ => 
      intro e
      simp only [rnA] at e ⊢
      by_cases c : figs p = true ∧ figs q = true ∧ NumText.digitsVal q ≠ 0
      · rw [if_pos c] at e ⊢
        exact e
      · rw [if_neg c] at e ⊢
        exact e
    | _ :: _ :: _ :: _, _ => exact fun e => e
theorem fn_read_number {l : List Nat} (hl : l.length ≤ 900) (hc : Cps l) : Ph.fn 5 [Sx l] = some (retN (rdN l)) := by
  refine callP (n := 0) (f := F5) rfl (ans_of ?_)
  show Ans _ (runs Ph 0 F5r0 [.val (Sx l), .no, .no, .no, .no]) _
  have ct := slc_Sx (a := l) (lo := none) (hi := some 1) (by omega)
  have cd := slc_Sx (a := l) (lo := some 1) (hi := none) (by omega)
  rw [cutL_t1] at ct
  rw [cutL_f1] at cd
  have eb := eqB_Sx (a := l.take 1) (b := [45]) (cps_sub hc (fun c hx => List.mem_of_mem_take hx)) (cps_cons (by decide) cps_nil)
  obtain ⟨w, hw⟩ : ∃ w, w = if l.take 1 = [45] then l.drop 1 else l := ⟨_, rfl⟩
  have wl : w.length ≤ 900 := by
    rw [hw]
    split
    · rw [List.length_drop]; omega
    · exact hl
  have sl := splC_len (c := 47) 900 w wl
  have sp := split_Sx (a := w) (c := 47) (by decide) (by omega)
  have rp := rn_parts hl hc hw (fun p hp => (sl.1 p hp).1) (by omega)
  have st : runs Ph 0 F5r0 [.val (Sx l), .no, .no, .no, .no] = runs Ph 0 F5r3 [.val (Sx l), .val (Sx w), .own false (LSx (splC 47 w)), .no, .no] := by
    by_cases m : l.take 1 = [45]
    · rw [decide_eq_true m] at eb
      rw [if_pos m] at hw
      subst hw
      simp only [F5r0_at, F5r1_at, F5r2_at, WW, WM, runs, runH, noX, evs, evo, evC, ofO, Vl.get, esc, escs, escM, brs, mskOk, backL, gets, vlOf, retV, bindV, seqO, zipO, List.all_cons, List.all_nil, List.any_cons, List.any_nil, id_eq, List.getElem?_cons_zero, List.getElem?_cons_succ, List.set_cons_zero, List.set_cons_succ, List.length_cons, List.length_nil, List.append_nil, List.nil_append, List.cons_append, List.map_cons, List.map_nil, Option.map_some, Option.map_none, Option.bind_some, Bool.not_true, Bool.not_false, Bool.and_true, Bool.true_and, Bool.and_false, Bool.false_and, Bool.or_false, Bool.or_true, Bool.true_or, Bool.false_or, Bool.false_eq_true, if_true, if_false, decide_true, decide_false, eq_self, List.mem_cons, true_or, or_true, List.take_succ_cons, List.take_zero, List.drop_succ_cons, List.drop_zero, List.dropLast_cons₂, List.dropLast_singleton, clean, wipeS, rstS, lcGo, forGo, List.getD_cons_zero, List.getD_cons_succ, List.contains_nil, boolOf, Nat.reduceAdd, Nat.reduceSub, Nat.reduceMul, Nat.reduceLT, Nat.reduceLeDiff, Nat.reduceEqDiff, Int.reduceAdd, Int.reduceSub, Int.reduceMul, Int.reduceNeg, Int.reduceLT, Int.reduceLE, Int.reduceEq, Int.reduceNe, Int.reducePow, Int.reduceToNat, reduceIte, reduceCtorEq, Int.cast_ofNat_Int, Int.natCast_add, Nat.zero_add, ct, cd, eb, sp]
    · rw [decide_eq_false m] at eb
      rw [if_neg m] at hw
      subst hw
      simp only [F5r0_at, F5r1_at, F5r2_at, WW, WM, runs, runH, noX, evs, evo, evC, ofO, Vl.get, esc, escs, escM, brs, mskOk, backL, gets, vlOf, retV, bindV, seqO, zipO, List.all_cons, List.all_nil, List.any_cons, List.any_nil, id_eq, List.getElem?_cons_zero, List.getElem?_cons_succ, List.set_cons_zero, List.set_cons_succ, List.length_cons, List.length_nil, List.append_nil, List.nil_append, List.cons_append, List.map_cons, List.map_nil, Option.map_some, Option.map_none, Option.bind_some, Bool.not_true, Bool.not_false, Bool.and_true, Bool.true_and, Bool.and_false, Bool.false_and, Bool.or_false, Bool.or_true, Bool.true_or, Bool.false_or, Bool.false_eq_true, if_true, if_false, decide_true, decide_false, eq_self, List.mem_cons, true_or, or_true, List.take_succ_cons, List.take_zero, List.drop_succ_cons, List.drop_zero, List.dropLast_cons₂, List.dropLast_singleton, clean, wipeS, rstS, lcGo, forGo, List.getD_cons_zero, List.getD_cons_succ, List.contains_nil, boolOf, Nat.reduceAdd, Nat.reduceSub, Nat.reduceMul, Nat.reduceLT, Nat.reduceLeDiff, Nat.reduceEqDiff, Int.reduceAdd, Int.reduceSub, Int.reduceMul, Int.reduceNeg, Int.reduceLT, Int.reduceLE, Int.reduceEq, Int.reduceNe, Int.reducePow, Int.reduceToNat, reduceIte, reduceCtorEq, Int.cast_ofNat_Int, Int.natCast_add, Nat.zero_add, ct, cd, eb, sp]
  rw [st]
  exact rp

theorem F6b0r0_at {n : Nat} {x : Slot} {xs : Sl} : runs Ph n F6b0r0 (x :: xs) = runs Ph n (.cons (.ifs (.cmp .ge (.var 3) (.bin .pow (.int 10) (.int 18))) (.cons (.expr (.mth .append 1 (.cons (.bin .sub (.var 3) (.bin .pow (.int 10) (.int 18))) .nil))) .nil) (.cons (.asg (.nm 4) (.bin .mod (.bin .mul (.bin .add (.bin .add (.bin .add (.var 3) (.bin .mul (.bin .mul (.int 7) (.var 2)) (.var 2))) (.bin .mul (.int 13) (.var 2))) (.int 5)) (.int 48271)) (.int 2147483647))) (.cons (.asg (.nm 5) (.bin .mod (.bin .mul (.bin .add (.bin .add (.bin .add (.var 3) (.bin .mul (.bin .mul (.int 11) (.var 2)) (.var 2))) (.bin .mul (.int 17) (.var 2))) (.int 3)) (.int 40692)) (.int 2147483399))) (.cons (.asg (.nm 6) (.bin .mod (.bin .mul (.bin .add (.bin .add (.bin .add (.var 3) (.bin .mul (.bin .mul (.int 5) (.var 2)) (.var 2))) (.bin .mul (.int 29) (.var 2))) (.int 8)) (.int 39373)) (.int 2147483587))) (.cons (.asg (.nm 4) (.bin .mod (.bin .mul (.var 4) (.int 52021)) (.int 1000000007))) (.cons (.asg (.nm 5) (.bin .mod (.bin .mul (.var 5) (.int 30011)) (.int 998244353))) (.cons (.asg (.nm 6) (.bin .mod (.bin .mul (.var 6) (.int 45989)) (.int 1000000009))) (.cons (.expr (.mth .append 1 (.cons (.bin .add (.bin .mul (.bin .add (.bin .mul (.var 4) (.int 998244353)) (.var 5)) (.int 1000000009)) (.var 6)) .nil))) .nil)))))))) .nil) (x :: xs) := rfl
theorem F6r2_at {n : Nat} {x : Slot} {xs : Sl} : runs Ph n F6r2 (x :: xs) = runs Ph n (.cons (.ret (.var 1)) .nil) (x :: xs) := rfl
theorem F6r1_at {n : Nat} {x : Slot} {xs : Sl} : runs Ph n F6r1 (x :: xs) = runs Ph n (.cons (.for_ (.tp (.cons (.nm 2) (.cons (.nm 3) .nil))) (.enm (.slc (.var 0) .no (.so (.int 63)))) F6b0r0) F6r2) (x :: xs) := rfl
theorem F6r0_at {n : Nat} {x : Slot} {xs : Sl} : runs Ph n F6r0 (x :: xs) = runs Ph n (.cons (.asg (.nm 1) (.lst .nil)) F6r1) (x :: xs) := rfl
/-! _law_row -/
theorem fn__law_row (ns : List Int) : Ph.fn 6 [frzD (ns.map .int)] = some (.ok true (Li (rowS ns)) []) := callP rfl (run_row Ph ns)

theorem F7t0_at {x : Slot} {xs : Sl} : ev Ph F7t0 (x :: xs) = ev Ph (.and (.cons (.cmp .gt (.blt .len (.cons (.var 0) .nil)) (.int 0)) (.cons (.cmp .eq (.ix (.var 0) (.int 0)) (.int 0)) .nil))) (x :: xs) := rfl
theorem F7b0r0_at {n : Nat} {x : Slot} {xs : Sl} : runs Ph n F7b0r0 (x :: xs) = runs Ph n (.cons (.expr (.mth .popAt 0 (.cons (.int 0) .nil))) .nil) (x :: xs) := rfl
theorem F7r4_at {n : Nat} {x : Slot} {xs : Sl} : runs Ph n F7r4 (x :: xs) = runs Ph n (.cons (.ret (.var 2)) .nil) (x :: xs) := rfl
theorem F7r3_at {n : Nat} {x : Slot} {xs : Sl} : runs Ph n F7r3 (x :: xs) = runs Ph n (.cons (.setIx 0 (.int 0) (.bin .fdiv (.ix (.var 0) (.int 0)) (.var 1))) F7r4) (x :: xs) := rfl
theorem F7r2_at {n : Nat} {x : Slot} {xs : Sl} : runs Ph n F7r2 (x :: xs) = runs Ph n (.cons (.asg (.nm 2) (.bin .mod (.ix (.var 0) (.int 0)) (.var 1))) F7r3) (x :: xs) := rfl
theorem F7r1_at {n : Nat} {x : Slot} {xs : Sl} : runs Ph n F7r1 (x :: xs) = runs Ph n (.cons (.ifs (.cmp .eq (.blt .len (.cons (.var 0) .nil)) (.int 0)) (.cons (.ret (.int 0)) .nil) .nil) F7r2) (x :: xs) := rfl
theorem F7r0_at {n : Nat} {x : Slot} {xs : Sl} : runs Ph n F7r0 (x :: xs) = runs Ph n (.cons (.whl F7t0 F7b0r0) F7r1) (x :: xs) := rfl
/-! _law_take -/
theorem fn__law_take {xs : List Int} {m : Int} (h : okM m = true) : Ph.fn 7 [Li xs, .int m] = some (.ok false (.int (takeS xs m).1) [Li (takeS xs m).2]) := callP rfl (run_take Ph xs m (okM_ne h) (okM_log h))
theorem takeOk : TakeOk Ph 7 := ⟨fun xs m h0 h1 => callP rfl (run_take Ph xs m (by omega) h1), rfl⟩

theorem F8t0_at {x : Slot} {xs : Sl} : ev Ph F8t0 (x :: xs) = ev Ph (.cmp .gt (.var 1) (.int 0)) (x :: xs) := rfl
theorem F8b0r0_at {n : Nat} {x : Slot} {xs : Sl} : runs Ph n F8b0r0 (x :: xs) = runs Ph n (.cons (.par 0 1 (.var 1) (.bin .mod (.var 0) (.var 1))) .nil) (x :: xs) := rfl
theorem F8r3_at {n : Nat} {x : Slot} {xs : Sl} : runs Ph n F8r3 (x :: xs) = runs Ph n (.cons (.ret (.var 0)) .nil) (x :: xs) := rfl
theorem F8r2_at {n : Nat} {x : Slot} {xs : Sl} : runs Ph n F8r2 (x :: xs) = runs Ph n (.cons (.whl F8t0 F8b0r0) F8r3) (x :: xs) := rfl
theorem F8r1_at {n : Nat} {x : Slot} {xs : Sl} : runs Ph n F8r1 (x :: xs) = runs Ph n (.cons (.asg (.nm 1) (.blt .abs (.cons (.var 1) .nil))) F8r2) (x :: xs) := rfl
theorem F8r0_at {n : Nat} {x : Slot} {xs : Sl} : runs Ph n F8r0 (x :: xs) = runs Ph n (.cons (.asg (.nm 0) (.blt .abs (.cons (.var 0) .nil))) F8r1) (x :: xs) := rfl
/-! _law_gcd -/
theorem fn__law_gcd {a b : Int} : Ph.fn 8 [.int a, .int b] = some (.ok false (.int (Int.gcd a b)) []) := callP rfl (run_gcd Ph a b)
theorem gcdOk : GcdOk Ph 8 := ⟨fun _ _ => fn__law_gcd, rfl⟩

theorem F9b0r0_at {n : Nat} {x : Slot} {xs : Sl} : runs Ph n F9b0r0 (x :: xs) = runs Ph n (.cons (.asg (.nm 1) (.call 8 (.cons (.var 1) (.cons (.var 2) .nil)) [])) .nil) (x :: xs) := rfl
theorem F9c0_at {x : Slot} {xs : Sl} : ev Ph F9c0 (x :: xs) = ev Ph (.bin .fdiv (.var 2) (.var 1)) (x :: xs) := rfl
theorem F9r3_at {n : Nat} {x : Slot} {xs : Sl} : runs Ph n F9r3 (x :: xs) = runs Ph n (.cons (.ret (.blt .tuple (.cons (.lc F9c0 (.nm 2) (.e (.var 0)) .no [2]) .nil))) .nil) (x :: xs) := rfl
theorem F9r2_at {n : Nat} {x : Slot} {xs : Sl} : runs Ph n F9r2 (x :: xs) = runs Ph n (.cons (.ifs (.cmp .eq (.var 1) (.int 0)) (.cons (.ret (.blt .tuple (.cons (.var 0) .nil))) .nil) .nil) F9r3) (x :: xs) := rfl
theorem F9r1_at {n : Nat} {x : Slot} {xs : Sl} : runs Ph n F9r1 (x :: xs) = runs Ph n (.cons (.for_ (.nm 2) (.e (.var 0)) F9b0r0) F9r2) (x :: xs) := rfl
theorem F9r0_at {n : Nat} {x : Slot} {xs : Sl} : runs Ph n F9r0 (x :: xs) = runs Ph n (.cons (.asg (.nm 1) (.int 0)) F9r1) (x :: xs) := rfl
/-! _law_lowest -/
theorem fn__law_lowestT {p : List Int} (h : okL p) : Ph.fn 9 [T p] = some (.ok false (T (lowL p)) []) := callP rfl (run_lawlowL gcdOk (.inl rfl) h)
theorem fn__law_lowestL {p : List Int} (h : okL p) : Ph.fn 9 [Li p] = some (.ok false (T (lowL p)) []) := callP rfl (run_lawlowL gcdOk (.inr rfl) h)

theorem F10r0_at {n : Nat} {x : Slot} {xs : Sl} : runs Ph n F10r0 (x :: xs) = runs Ph n (.cons (.ret (.and (.cons (.isT (.var 0) .int) (.cons (.not (.isT (.var 0) .bool)) .nil)))) .nil) (x :: xs) := rfl
/-! _law_whole -/
theorem fn__law_whole {a : Int} : Ph.fn 10 [.int a] = some (.ok false (.bool true) []) := callP rfl (run_whole Ph a)
theorem whOk : WholeOk Ph 10 := ⟨fun _ => fn__law_whole, rfl⟩

theorem F11c0_at {x : Slot} {xs : Sl} : ev Ph F11c0 (x :: xs) = ev Ph (.call 10 (.cons (.var 2) .nil) []) (x :: xs) := rfl
theorem F11r1_at {n : Nat} {x : Slot} {xs : Sl} : runs Ph n F11r1 (x :: xs) = runs Ph n (.cons (.ret (.blt .all (.cons (.lc F11c0 (.nm 2) (.e (.var 0)) .no [2]) .nil))) .nil) (x :: xs) := rfl
theorem F11r0_at {n : Nat} {x : Slot} {xs : Sl} : runs Ph n F11r0 (x :: xs) = runs Ph n (.cons (.ifs (.or (.cons (.not (.isT (.var 0) .tuple)) (.cons (.cmp .ne (.blt .len (.cons (.var 0) .nil)) (.var 1)) .nil))) (.cons (.ret (.bl false)) .nil) .nil) F11r1) (x :: xs) := rfl
/-! _law_wholes -/
theorem fn__law_wholes {p : List Int} {n : Int} (h : (p.length : Int) = n) (h2 : p.length ≤ 1000) : Ph.fn 11 [T p, .int n] = some (.ok false (.bool true) []) := by
  obtain ⟨m, e⟩ := ok_wholes (w := 10) whOk (ds := [T p, .int n]) (r := .ok false (.bool true) []) (by
    show (intsOf (p.map .int)).bind _ = _
    rw [intsOf_map]
    exact if_pos ⟨h, h2⟩)
  exact callP rfl e
theorem whsOk : WholesOk Ph 11 := ⟨fun _ h => fn__law_wholes rfl h, rfl⟩

theorem F12r1_at {n : Nat} {x : Slot} {xs : Sl} : runs Ph n F12r1 (x :: xs) = runs Ph n (.cons (.ret (.call 9 (.cons (.lst (.cons (.var 0) (.cons (.var 1) .nil))) .nil) [])) .nil) (x :: xs) := rfl
theorem F12r0_at {n : Nat} {x : Slot} {xs : Sl} : runs Ph n F12r0 (x :: xs) = runs Ph n (.cons (.ifs (.cmp .lt (.var 1) (.int 0)) (.cons (.ret (.call 9 (.cons (.lst (.cons (.bin .sub (.int 0) (.var 0)) (.cons (.bin .sub (.int 0) (.var 1)) .nil))) .nil) [])) .nil) .nil) F12r1) (x :: xs) := rfl
/-! _law_frac -/
theorem llowOk2 : LowOk Ph 9 := ⟨fun _ _ h0 h1 => callP rfl (run_lawlow2 gcdOk (.inl rfl) h0 h1), fun _ _ h0 h1 => callP rfl (run_lawlow2 gcdOk (.inr rfl) h0 h1), rfl⟩
theorem fn__law_frac {a b : Int} (hb : b ≠ 0) (hs : smal b) : Ph.fn 12 [.int a, .int b] = some (.ok false (T (frL a b)) []) := by
  obtain ⟨m, e⟩ := ok_fracN llowOk2 (ds := [.int a, .int b]) (r := .ok false (T (frL a b)) []) (by simp [phFrN, gint2, hb, hs, T, frL, prD])
  exact callP rfl e

theorem F13r3_at {n : Nat} {x : Slot} {xs : Sl} : runs Ph n F13r3 (x :: xs) = runs Ph n (.cons (.ret (.bin .add (.bin .add (.blt .str (.cons (.var 0) .nil)) (.str (SX.S [47]))) (.blt .str (.cons (.var 1) .nil)))) .nil) (x :: xs) := rfl
theorem F13r2_at {n : Nat} {x : Slot} {xs : Sl} : runs Ph n F13r2 (x :: xs) = runs Ph n (.cons (.ifs (.cmp .eq (.var 1) (.int 1)) (.cons (.ret (.blt .str (.cons (.var 0) .nil))) .nil) .nil) F13r3) (x :: xs) := rfl
theorem F13r1_at {n : Nat} {x : Slot} {xs : Sl} : runs Ph n F13r1 (x :: xs) = runs Ph n (.cons (.ifs (.or (.cons (.cmp .ge (.blt .abs (.cons (.var 0) .nil)) (.bin .pow (.int 10) (.int 60))) (.cons (.cmp .ge (.var 1) (.bin .pow (.int 10) (.int 60))) .nil))) (.cons (.ret .non) .nil) .nil) F13r2) (x :: xs) := rfl
theorem F13r0_at {n : Nat} {x : Slot} {xs : Sl} : runs Ph n F13r0 (x :: xs) = runs Ph n (.cons (.asg (.tp (.cons (.nm 0) (.cons (.nm 1) .nil))) (.call 12 (.cons (.var 0) (.cons (.var 1) .nil)) [])) F13r1) (x :: xs) := rfl
/-! _law_written -/
theorem fn__law_written {t b : Int} (hb : 0 < b) (hs : smal b) : Ph.fn 13 [.int t, .int b] = some (.ok false (if ((fr t b).1.natAbs : Int) < 1000000000000000000000000000000000000000000000000000000000000 ∧ (fr t b).2 < 1000000000000000000000000000000000000000000000000000000000000 then Sx (shN (fr t b).1 (fr t b).2) else .none) []) := by
  have f := fn__law_frac (a := t) (by omega) hs
  have pos := (fr_cross (t := t) hb).2.1
  unfold frL at f
  generalize (fr t b).1 = x at *
  generalize (fr t b).2 = y at *
  refine callP (n := 0) (f := F13) rfl (ans_of ?_)
  show Ans _ (runs Ph 0 F13r0 [.val (.int t), .val (.int b)]) _
  by_cases h1 : (x.natAbs : Int) < 1000000000000000000000000000000000000000000000000000000000000
  · have d1 : decide ((1000000000000000000000000000000000000000000000000000000000000 : Int) ≤ (x.natAbs : Int)) = false := decide_eq_false (by omega)
    by_cases h2 : y < 1000000000000000000000000000000000000000000000000000000000000
    · have d2 : decide ((1000000000000000000000000000000000000000000000000000000000000 : Int) ≤ y) = false := decide_eq_false (by omega)
      rw [if_pos ⟨h1, h2⟩]
      have st := str_Z (log60 h1)
      have sb := str_Z (n := y) (log60 (by omega))
      have l1 := numZ_len h1
      have l2 := numZ_len (t := y) (by omega)
      have a1 := add_Sx (a := numZ x) (b := [47]) (by simp only [List.length_cons, List.length_nil]; omega)
      have a2 := add_Sx (a := numZ x ++ [47]) (b := numZ y) (by simp only [List.length_append, List.length_cons, List.length_nil]; omega)
      unfold shN
      by_cases h3 : y = 1
      · subst h3
        simp only [F13r3_at, F13r2_at, F13r1_at, F13r0_at, WW, WM, runs, runH, noX, evs, evo, evC, ofO, Vl.get, esc, escs, escM, brs, mskOk, backL, gets, vlOf, retV, bindV, seqO, zipO, List.all_cons, List.all_nil, List.any_cons, List.any_nil, id_eq, List.getElem?_cons_zero, List.getElem?_cons_succ, List.set_cons_zero, List.set_cons_succ, List.length_cons, List.length_nil, List.append_nil, List.nil_append, List.cons_append, List.map_cons, List.map_nil, Option.map_some, Option.map_none, Option.bind_some, Bool.not_true, Bool.not_false, Bool.and_true, Bool.true_and, Bool.and_false, Bool.false_and, Bool.or_false, Bool.or_true, Bool.true_or, Bool.false_or, Bool.false_eq_true, if_true, if_false, decide_true, decide_false, eq_self, List.mem_cons, true_or, or_true, List.take_succ_cons, List.take_zero, List.drop_succ_cons, List.drop_zero, List.dropLast_cons₂, List.dropLast_singleton, clean, wipeS, rstS, lcGo, forGo, List.getD_cons_zero, List.getD_cons_succ, List.contains_nil, boolOf, Nat.reduceAdd, Nat.reduceSub, Nat.reduceMul, Nat.reduceLT, Nat.reduceLeDiff, Nat.reduceEqDiff, Int.reduceAdd, Int.reduceSub, Int.reduceMul, Int.reduceNeg, Int.reduceLT, Int.reduceLE, Int.reduceEq, Int.reduceNe, Int.reducePow, Int.reduceToNat, reduceIte, reduceCtorEq, Int.cast_ofNat_Int, Int.natCast_add, Nat.zero_add, f, d1, d2, st]
        exact ans_rt rfl
      · rw [if_neg h3]
        have d3 : decide (y = 1) = false := decide_eq_false h3
        simp only [F13r3_at, F13r2_at, F13r1_at, F13r0_at, WW, WM, runs, runH, noX, evs, evo, evC, ofO, Vl.get, esc, escs, escM, brs, mskOk, backL, gets, vlOf, retV, bindV, seqO, zipO, List.all_cons, List.all_nil, List.any_cons, List.any_nil, id_eq, List.getElem?_cons_zero, List.getElem?_cons_succ, List.set_cons_zero, List.set_cons_succ, List.length_cons, List.length_nil, List.append_nil, List.nil_append, List.cons_append, List.map_cons, List.map_nil, Option.map_some, Option.map_none, Option.bind_some, Bool.not_true, Bool.not_false, Bool.and_true, Bool.true_and, Bool.and_false, Bool.false_and, Bool.or_false, Bool.or_true, Bool.true_or, Bool.false_or, Bool.false_eq_true, if_true, if_false, decide_true, decide_false, eq_self, List.mem_cons, true_or, or_true, List.take_succ_cons, List.take_zero, List.drop_succ_cons, List.drop_zero, List.dropLast_cons₂, List.dropLast_singleton, clean, wipeS, rstS, lcGo, forGo, List.getD_cons_zero, List.getD_cons_succ, List.contains_nil, boolOf, Nat.reduceAdd, Nat.reduceSub, Nat.reduceMul, Nat.reduceLT, Nat.reduceLeDiff, Nat.reduceEqDiff, Int.reduceAdd, Int.reduceSub, Int.reduceMul, Int.reduceNeg, Int.reduceLT, Int.reduceLE, Int.reduceEq, Int.reduceNe, Int.reducePow, Int.reduceToNat, reduceIte, reduceCtorEq, Int.cast_ofNat_Int, Int.natCast_add, Nat.zero_add, f, d1, d2, d3, st, sb, a1, a2]
        rw [List.append_assoc]
        exact ans_rt rfl
    · have d2 : decide ((1000000000000000000000000000000000000000000000000000000000000 : Int) ≤ y) = true := decide_eq_true (by omega)
      rw [if_neg (fun h => h2 h.2)]
      simp only [F13r3_at, F13r2_at, F13r1_at, F13r0_at, WW, WM, runs, runH, noX, evs, evo, evC, ofO, Vl.get, esc, escs, escM, brs, mskOk, backL, gets, vlOf, retV, bindV, seqO, zipO, List.all_cons, List.all_nil, List.any_cons, List.any_nil, id_eq, List.getElem?_cons_zero, List.getElem?_cons_succ, List.set_cons_zero, List.set_cons_succ, List.length_cons, List.length_nil, List.append_nil, List.nil_append, List.cons_append, List.map_cons, List.map_nil, Option.map_some, Option.map_none, Option.bind_some, Bool.not_true, Bool.not_false, Bool.and_true, Bool.true_and, Bool.and_false, Bool.false_and, Bool.or_false, Bool.or_true, Bool.true_or, Bool.false_or, Bool.false_eq_true, if_true, if_false, decide_true, decide_false, eq_self, List.mem_cons, true_or, or_true, List.take_succ_cons, List.take_zero, List.drop_succ_cons, List.drop_zero, List.dropLast_cons₂, List.dropLast_singleton, clean, wipeS, rstS, lcGo, forGo, List.getD_cons_zero, List.getD_cons_succ, List.contains_nil, boolOf, Nat.reduceAdd, Nat.reduceSub, Nat.reduceMul, Nat.reduceLT, Nat.reduceLeDiff, Nat.reduceEqDiff, Int.reduceAdd, Int.reduceSub, Int.reduceMul, Int.reduceNeg, Int.reduceLT, Int.reduceLE, Int.reduceEq, Int.reduceNe, Int.reducePow, Int.reduceToNat, reduceIte, reduceCtorEq, Int.cast_ofNat_Int, Int.natCast_add, Nat.zero_add, f, d1, d2]
      exact ans_rt rfl
  · have d1 : decide ((1000000000000000000000000000000000000000000000000000000000000 : Int) ≤ (x.natAbs : Int)) = true := decide_eq_true (by omega)
    rw [if_neg (fun h => h1 h.1)]
    simp only [F13r3_at, F13r2_at, F13r1_at, F13r0_at, WW, WM, runs, runH, noX, evs, evo, evC, ofO, Vl.get, esc, escs, escM, brs, mskOk, backL, gets, vlOf, retV, bindV, seqO, zipO, List.all_cons, List.all_nil, List.any_cons, List.any_nil, id_eq, List.getElem?_cons_zero, List.getElem?_cons_succ, List.set_cons_zero, List.set_cons_succ, List.length_cons, List.length_nil, List.append_nil, List.nil_append, List.cons_append, List.map_cons, List.map_nil, Option.map_some, Option.map_none, Option.bind_some, Bool.not_true, Bool.not_false, Bool.and_true, Bool.true_and, Bool.and_false, Bool.false_and, Bool.or_false, Bool.or_true, Bool.true_or, Bool.false_or, Bool.false_eq_true, if_true, if_false, decide_true, decide_false, eq_self, List.mem_cons, true_or, or_true, List.take_succ_cons, List.take_zero, List.drop_succ_cons, List.drop_zero, List.dropLast_cons₂, List.dropLast_singleton, clean, wipeS, rstS, lcGo, forGo, List.getD_cons_zero, List.getD_cons_succ, List.contains_nil, boolOf, Nat.reduceAdd, Nat.reduceSub, Nat.reduceMul, Nat.reduceLT, Nat.reduceLeDiff, Nat.reduceEqDiff, Int.reduceAdd, Int.reduceSub, Int.reduceMul, Int.reduceNeg, Int.reduceLT, Int.reduceLE, Int.reduceEq, Int.reduceNe, Int.reducePow, Int.reduceToNat, reduceIte, reduceCtorEq, Int.cast_ofNat_Int, Int.natCast_add, Nat.zero_add, f, d1]
    exact ans_rt rfl

theorem F14r4_at {n : Nat} {x : Slot} {xs : Sl} : runs Ph n F14r4 (x :: xs) = runs Ph n (.cons (.ret (.call 7 (.cons (.var 0) (.cons (.ix (.lst (.cons (.int 10) (.cons (.bin .pow (.int 10) (.int 20)) (.cons (.bin .pow (.int 10) (.int 61)) .nil)))) (.call 7 (.cons (.var 0) (.cons (.int 3) .nil)) [])) .nil)) [])) .nil) (x :: xs) := rfl
theorem F14r3_at {n : Nat} {x : Slot} {xs : Sl} : runs Ph n F14r3 (x :: xs) = runs Ph n (.cons (.ifs (.cmp .eq (.var 1) (.int 2)) (.cons (.ret (.bin .pow (.int 10) (.int 59))) .nil) .nil) F14r4) (x :: xs) := rfl
theorem F14r2_at {n : Nat} {x : Slot} {xs : Sl} : runs Ph n F14r2 (x :: xs) = runs Ph n (.cons (.ifs (.cmp .eq (.var 1) (.int 1)) (.cons (.ret (.bin .pow (.int 10) (.int 60))) .nil) .nil) F14r3) (x :: xs) := rfl
theorem F14r1_at {n : Nat} {x : Slot} {xs : Sl} : runs Ph n F14r1 (x :: xs) = runs Ph n (.cons (.ifs (.cmp .eq (.var 1) (.int 0)) (.cons (.ret (.bin .sub (.bin .pow (.int 10) (.int 60)) (.int 1))) .nil) .nil) F14r2) (x :: xs) := rfl
theorem F14r0_at {n : Nat} {x : Slot} {xs : Sl} : runs Ph n F14r0 (x :: xs) = runs Ph n (.cons (.asg (.nm 1) (.call 7 (.cons (.var 0) (.cons (.int 8) .nil)) [])) F14r1) (x :: xs) := rfl
/-! _law_great -/
theorem take61 (xs : List Int) : Ph.fn 7 [Li xs, .int 10000000000000000000000000000000000000000000000000000000000000] = some (.ok false (.int (takeS xs 10000000000000000000000000000000000000000000000000000000000000).1) [Li (takeS xs 10000000000000000000000000000000000000000000000000000000000000).2]) := takeOk.1 xs _ (by decide) (by decide)
theorem fn__law_great (R : List Int) : ∃ (g : Int) (R' : List Int), (0 ≤ g ∧ g < 10000000000000000000000000000000000000000000000000000000000000) ∧ Ph.fn 14 [Li R] = some (.ok false (.int g) [Li R']) := by
  have ok8 : okM 8 = true := by decide
  have ok3 : okM 3 = true := by decide
  have ok10 : okM 10 = true := by decide
  have ok20 : okM 100000000000000000000 = true := by decide
  suffices h : ∃ (g : Int) (R' : List Int), (0 ≤ g ∧ g < 10000000000000000000000000000000000000000000000000000000000000) ∧ Ans F14 (runs Ph 0 F14r0 [.own true (Li R), .no]) (.ok false (.int g) [Li R']) by
    obtain ⟨g, R', hg, h⟩ := h
    exact ⟨g, R', hg, callP (n := 0) (f := F14) rfl (ans_of h)⟩
  have c0 := fn__law_take ok8 (xs := R)
  generalize (takeS R 8).1 = w at c0
  generalize (takeS R 8).2 = R1 at c0
  by_cases h0 : w = 0
  · refine ⟨999999999999999999999999999999999999999999999999999999999999, R1, by decide, ?_⟩
    simp only [F14r4_at, F14r3_at, F14r2_at, F14r1_at, F14r0_at, WW, WM, runs, runH, noX, evs, evo, evC, ofO, Vl.get, esc, escs, escM, brs, mskOk, backL, gets, vlOf, retV, bindV, seqO, zipO, List.all_cons, List.all_nil, List.any_cons, List.any_nil, id_eq, List.getElem?_cons_zero, List.getElem?_cons_succ, List.set_cons_zero, List.set_cons_succ, List.length_cons, List.length_nil, List.append_nil, List.nil_append, List.cons_append, List.map_cons, List.map_nil, Option.map_some, Option.map_none, Option.bind_some, Bool.not_true, Bool.not_false, Bool.and_true, Bool.true_and, Bool.and_false, Bool.false_and, Bool.or_false, Bool.or_true, Bool.true_or, Bool.false_or, Bool.false_eq_true, if_true, if_false, decide_true, decide_false, eq_self, List.mem_cons, true_or, or_true, List.take_succ_cons, List.take_zero, List.drop_succ_cons, List.drop_zero, List.dropLast_cons₂, List.dropLast_singleton, clean, wipeS, rstS, lcGo, forGo, List.getD_cons_zero, List.getD_cons_succ, List.contains_nil, boolOf, Nat.reduceAdd, Nat.reduceSub, Nat.reduceMul, Nat.reduceLT, Nat.reduceLeDiff, Nat.reduceEqDiff, Int.reduceAdd, Int.reduceSub, Int.reduceMul, Int.reduceNeg, Int.reduceLT, Int.reduceLE, Int.reduceEq, Int.reduceNe, Int.reducePow, Int.reduceToNat, reduceIte, reduceCtorEq, Int.cast_ofNat_Int, Int.natCast_add, Nat.zero_add, c0, h0]
    exact ans_rt rfl
  by_cases h1 : w = 1
  · refine ⟨1000000000000000000000000000000000000000000000000000000000000, R1, by decide, ?_⟩
    simp only [F14r4_at, F14r3_at, F14r2_at, F14r1_at, F14r0_at, WW, WM, runs, runH, noX, evs, evo, evC, ofO, Vl.get, esc, escs, escM, brs, mskOk, backL, gets, vlOf, retV, bindV, seqO, zipO, List.all_cons, List.all_nil, List.any_cons, List.any_nil, id_eq, List.getElem?_cons_zero, List.getElem?_cons_succ, List.set_cons_zero, List.set_cons_succ, List.length_cons, List.length_nil, List.append_nil, List.nil_append, List.cons_append, List.map_cons, List.map_nil, Option.map_some, Option.map_none, Option.bind_some, Bool.not_true, Bool.not_false, Bool.and_true, Bool.true_and, Bool.and_false, Bool.false_and, Bool.or_false, Bool.or_true, Bool.true_or, Bool.false_or, Bool.false_eq_true, if_true, if_false, decide_true, decide_false, eq_self, List.mem_cons, true_or, or_true, List.take_succ_cons, List.take_zero, List.drop_succ_cons, List.drop_zero, List.dropLast_cons₂, List.dropLast_singleton, clean, wipeS, rstS, lcGo, forGo, List.getD_cons_zero, List.getD_cons_succ, List.contains_nil, boolOf, Nat.reduceAdd, Nat.reduceSub, Nat.reduceMul, Nat.reduceLT, Nat.reduceLeDiff, Nat.reduceEqDiff, Int.reduceAdd, Int.reduceSub, Int.reduceMul, Int.reduceNeg, Int.reduceLT, Int.reduceLE, Int.reduceEq, Int.reduceNe, Int.reducePow, Int.reduceToNat, reduceIte, reduceCtorEq, Int.cast_ofNat_Int, Int.natCast_add, Nat.zero_add, c0, h1]
    exact ans_rt rfl
  by_cases h2 : w = 2
  · refine ⟨100000000000000000000000000000000000000000000000000000000000, R1, by decide, ?_⟩
    simp only [F14r4_at, F14r3_at, F14r2_at, F14r1_at, F14r0_at, WW, WM, runs, runH, noX, evs, evo, evC, ofO, Vl.get, esc, escs, escM, brs, mskOk, backL, gets, vlOf, retV, bindV, seqO, zipO, List.all_cons, List.all_nil, List.any_cons, List.any_nil, id_eq, List.getElem?_cons_zero, List.getElem?_cons_succ, List.set_cons_zero, List.set_cons_succ, List.length_cons, List.length_nil, List.append_nil, List.nil_append, List.cons_append, List.map_cons, List.map_nil, Option.map_some, Option.map_none, Option.bind_some, Bool.not_true, Bool.not_false, Bool.and_true, Bool.true_and, Bool.and_false, Bool.false_and, Bool.or_false, Bool.or_true, Bool.true_or, Bool.false_or, Bool.false_eq_true, if_true, if_false, decide_true, decide_false, eq_self, List.mem_cons, true_or, or_true, List.take_succ_cons, List.take_zero, List.drop_succ_cons, List.drop_zero, List.dropLast_cons₂, List.dropLast_singleton, clean, wipeS, rstS, lcGo, forGo, List.getD_cons_zero, List.getD_cons_succ, List.contains_nil, boolOf, Nat.reduceAdd, Nat.reduceSub, Nat.reduceMul, Nat.reduceLT, Nat.reduceLeDiff, Nat.reduceEqDiff, Int.reduceAdd, Int.reduceSub, Int.reduceMul, Int.reduceNeg, Int.reduceLT, Int.reduceLE, Int.reduceEq, Int.reduceNe, Int.reducePow, Int.reduceToNat, reduceIte, reduceCtorEq, Int.cast_ofNat_Int, Int.natCast_add, Nat.zero_add, c0, h2]
    exact ans_rt rfl
  have c1 := fn__law_take ok3 (xs := R1)
  have r1 := takeS_rng R1 (m := 3) (by decide)
  generalize (takeS R1 3).1 = v at c1 r1
  generalize (takeS R1 3).2 = R2 at c1
  rcases (by omega : v = 0 ∨ v = 1 ∨ v = 2) with rfl | rfl | rfl
  · have c2 := fn__law_take ok10 (xs := R2)
    have r2 := takeS_rng R2 (m := 10) (by decide)
    refine ⟨(takeS R2 10).1, (takeS R2 10).2, ⟨r2.1, by omega⟩, ?_⟩
    simp only [F14r4_at, F14r3_at, F14r2_at, F14r1_at, F14r0_at, WW, WM, runs, runH, noX, evs, evo, evC, ofO, Vl.get, esc, escs, escM, brs, mskOk, backL, gets, vlOf, retV, bindV, seqO, zipO, List.all_cons, List.all_nil, List.any_cons, List.any_nil, id_eq, List.getElem?_cons_zero, List.getElem?_cons_succ, List.set_cons_zero, List.set_cons_succ, List.length_cons, List.length_nil, List.append_nil, List.nil_append, List.cons_append, List.map_cons, List.map_nil, Option.map_some, Option.map_none, Option.bind_some, Bool.not_true, Bool.not_false, Bool.and_true, Bool.true_and, Bool.and_false, Bool.false_and, Bool.or_false, Bool.or_true, Bool.true_or, Bool.false_or, Bool.false_eq_true, if_true, if_false, decide_true, decide_false, eq_self, List.mem_cons, true_or, or_true, List.take_succ_cons, List.take_zero, List.drop_succ_cons, List.drop_zero, List.dropLast_cons₂, List.dropLast_singleton, clean, wipeS, rstS, lcGo, forGo, List.getD_cons_zero, List.getD_cons_succ, List.contains_nil, boolOf, Nat.reduceAdd, Nat.reduceSub, Nat.reduceMul, Nat.reduceLT, Nat.reduceLeDiff, Nat.reduceEqDiff, Int.reduceAdd, Int.reduceSub, Int.reduceMul, Int.reduceNeg, Int.reduceLT, Int.reduceLE, Int.reduceEq, Int.reduceNe, Int.reducePow, Int.reduceToNat, reduceIte, reduceCtorEq, Int.cast_ofNat_Int, Int.natCast_add, Nat.zero_add, c0, h0, h1, h2, c1, c2]
    exact ans_rt rfl
  · have c2 := fn__law_take ok20 (xs := R2)
    have r2 := takeS_rng R2 (m := 100000000000000000000) (by decide)
    refine ⟨(takeS R2 100000000000000000000).1, (takeS R2 100000000000000000000).2, ⟨r2.1, by omega⟩, ?_⟩
    simp only [F14r4_at, F14r3_at, F14r2_at, F14r1_at, F14r0_at, WW, WM, runs, runH, noX, evs, evo, evC, ofO, Vl.get, esc, escs, escM, brs, mskOk, backL, gets, vlOf, retV, bindV, seqO, zipO, List.all_cons, List.all_nil, List.any_cons, List.any_nil, id_eq, List.getElem?_cons_zero, List.getElem?_cons_succ, List.set_cons_zero, List.set_cons_succ, List.length_cons, List.length_nil, List.append_nil, List.nil_append, List.cons_append, List.map_cons, List.map_nil, Option.map_some, Option.map_none, Option.bind_some, Bool.not_true, Bool.not_false, Bool.and_true, Bool.true_and, Bool.and_false, Bool.false_and, Bool.or_false, Bool.or_true, Bool.true_or, Bool.false_or, Bool.false_eq_true, if_true, if_false, decide_true, decide_false, eq_self, List.mem_cons, true_or, or_true, List.take_succ_cons, List.take_zero, List.drop_succ_cons, List.drop_zero, List.dropLast_cons₂, List.dropLast_singleton, clean, wipeS, rstS, lcGo, forGo, List.getD_cons_zero, List.getD_cons_succ, List.contains_nil, boolOf, Nat.reduceAdd, Nat.reduceSub, Nat.reduceMul, Nat.reduceLT, Nat.reduceLeDiff, Nat.reduceEqDiff, Int.reduceAdd, Int.reduceSub, Int.reduceMul, Int.reduceNeg, Int.reduceLT, Int.reduceLE, Int.reduceEq, Int.reduceNe, Int.reducePow, Int.reduceToNat, reduceIte, reduceCtorEq, Int.cast_ofNat_Int, Int.natCast_add, Nat.zero_add, c0, h0, h1, h2, c1, c2]
    exact ans_rt rfl
  · have c2 := take61 R2
    have r2 := takeS_rng R2 (m := 10000000000000000000000000000000000000000000000000000000000000) (by decide)
    refine ⟨(takeS R2 10000000000000000000000000000000000000000000000000000000000000).1, (takeS R2 10000000000000000000000000000000000000000000000000000000000000).2, ⟨r2.1, by omega⟩, ?_⟩
    simp only [F14r4_at, F14r3_at, F14r2_at, F14r1_at, F14r0_at, WW, WM, runs, runH, noX, evs, evo, evC, ofO, Vl.get, esc, escs, escM, brs, mskOk, backL, gets, vlOf, retV, bindV, seqO, zipO, List.all_cons, List.all_nil, List.any_cons, List.any_nil, id_eq, List.getElem?_cons_zero, List.getElem?_cons_succ, List.set_cons_zero, List.set_cons_succ, List.length_cons, List.length_nil, List.append_nil, List.nil_append, List.cons_append, List.map_cons, List.map_nil, Option.map_some, Option.map_none, Option.bind_some, Bool.not_true, Bool.not_false, Bool.and_true, Bool.true_and, Bool.and_false, Bool.false_and, Bool.or_false, Bool.or_true, Bool.true_or, Bool.false_or, Bool.false_eq_true, if_true, if_false, decide_true, decide_false, eq_self, List.mem_cons, true_or, or_true, List.take_succ_cons, List.take_zero, List.drop_succ_cons, List.drop_zero, List.dropLast_cons₂, List.dropLast_singleton, clean, wipeS, rstS, lcGo, forGo, List.getD_cons_zero, List.getD_cons_succ, List.contains_nil, boolOf, Nat.reduceAdd, Nat.reduceSub, Nat.reduceMul, Nat.reduceLT, Nat.reduceLeDiff, Nat.reduceEqDiff, Int.reduceAdd, Int.reduceSub, Int.reduceMul, Int.reduceNeg, Int.reduceLT, Int.reduceLE, Int.reduceEq, Int.reduceNe, Int.reducePow, Int.reduceToNat, reduceIte, reduceCtorEq, Int.cast_ofNat_Int, Int.natCast_add, Nat.zero_add, c0, h0, h1, h2, c1, c2]
    exact ans_rt rfl

theorem F15r12_at {n : Nat} {x : Slot} {xs : Sl} : runs Ph n F15r12 (x :: xs) = runs Ph n (.cons (.ret (.and (.cons (.call 11 (.cons (.var 8) (.cons (.int 2) .nil)) []) (.cons (.cmp .eq (.var 8) (.var 3)) .nil)))) .nil) (x :: xs) := rfl
theorem F15r11_at {n : Nat} {x : Slot} {xs : Sl} : runs Ph n F15r11 (x :: xs) = runs Ph n (.cons (.asg (.nm 8) (.call 5 (.cons (.var 5) .nil) [])) F15r12) (x :: xs) := rfl
theorem F15r10_at {n : Nat} {x : Slot} {xs : Sl} : runs Ph n F15r10 (x :: xs) = runs Ph n (.cons (.ifs (.or (.cons (.not (.isT (.var 5) .str)) (.cons (.cmp .ne (.var 5) (.var 4)) .nil))) (.cons (.ret (.bl false)) .nil) .nil) F15r11) (x :: xs) := rfl
theorem F15r9_at {n : Nat} {x : Slot} {xs : Sl} : runs Ph n F15r9 (x :: xs) = runs Ph n (.cons (.ifs (.cmp .is (.var 4) .non) (.cons (.ret (.and (.cons (.cmp .is (.var 5) .non) (.cons (.cmp .eq (.var 6) (.tup (.cons (.bl true) (.cons (.bl false) .nil)))) .nil)))) .nil) .nil) F15r10) (x :: xs) := rfl
theorem F15r8_at {n : Nat} {x : Slot} {xs : Sl} : runs Ph n F15r8 (x :: xs) = runs Ph n (.cons (.try_ (.cons (.asg (.nm 5) (.call 4 (.cons (.var 3) .nil) [])) .nil) (.cons [3] (some 7) (.cons (.asg (.nm 6) (.tup (.cons (.isE 7 [0]) (.cons (.isE 7 [2]) .nil)))) .nil) .nil)) F15r9) (x :: xs) := rfl
theorem F15r7_at {n : Nat} {x : Slot} {xs : Sl} : runs Ph n F15r7 (x :: xs) = runs Ph n (.cons (.asg (.nm 6) (.tup (.cons (.bl false) (.cons (.bl false) .nil)))) F15r8) (x :: xs) := rfl
theorem F15r6_at {n : Nat} {x : Slot} {xs : Sl} : runs Ph n F15r6 (x :: xs) = runs Ph n (.cons (.asg (.nm 5) .non) F15r7) (x :: xs) := rfl
theorem F15r5_at {n : Nat} {x : Slot} {xs : Sl} : runs Ph n F15r5 (x :: xs) = runs Ph n (.cons (.asg (.nm 4) (.call 13 (.cons (.var 1) (.cons (.var 2) .nil)) [])) F15r6) (x :: xs) := rfl
theorem F15r4_at {n : Nat} {x : Slot} {xs : Sl} : runs Ph n F15r4 (x :: xs) = runs Ph n (.cons (.asg (.nm 3) (.call 12 (.cons (.var 1) (.cons (.var 2) .nil)) [])) F15r5) (x :: xs) := rfl
theorem F15r3_at {n : Nat} {x : Slot} {xs : Sl} : runs Ph n F15r3 (x :: xs) = runs Ph n (.cons (.ifs (.cmp .gt (.call 7 (.cons (.var 0) (.cons (.int 3) .nil)) []) (.int 0)) (.cons (.asg (.nm 2) (.blt .max (.cons (.int 1) (.cons (.call 14 (.cons (.var 0) .nil) []) .nil)))) .nil) .nil) F15r4) (x :: xs) := rfl
theorem F15r2_at {n : Nat} {x : Slot} {xs : Sl} : runs Ph n F15r2 (x :: xs) = runs Ph n (.cons (.asg (.nm 2) (.int 1)) F15r3) (x :: xs) := rfl
theorem F15r1_at {n : Nat} {x : Slot} {xs : Sl} : runs Ph n F15r1 (x :: xs) = runs Ph n (.cons (.ifs (.cmp .eq (.call 7 (.cons (.var 0) (.cons (.int 2) .nil)) []) (.int 1)) (.cons (.asg (.nm 1) (.bin .sub (.int 0) (.var 1))) .nil) .nil) F15r2) (x :: xs) := rfl
theorem F15r0_at {n : Nat} {x : Slot} {xs : Sl} : runs Ph n F15r0 (x :: xs) = runs Ph n (.cons (.asg (.nm 1) (.call 14 (.cons (.var 0) .nil) [])) F15r1) (x :: xs) := rfl
/-! _law_once -/
theorem once_rest {t b : Int} (hb : 0 < b) (hs : b < 10000000000000000000000000000000000000000000000000000000000000) (R : List Int) :
    Yes1 (runs Ph 0 F15r4 [.own true (Li R), .val (.int t), .val (.int b), .no, .no, .no, .no, .no, .no]) := by
  have sm : smal b := smal250 (Nat.lt_of_lt_of_le (m := 10 ^ 61) (by omega) (by decide))
  have f := fn__law_frac (a := t) (b := b) (by omega) sm
  have wr := fn__law_written (t := t) hb sm
  obtain ⟨_, pos, _, _, gc, _⟩ := fr_cross (t := t) hb
  unfold frL at f
  generalize (fr t b).1 = x at *
  generalize (fr t b).2 = y at *
  have sh := fn_shown_number (t := x) (b := y) pos
  have tf : eqB (.tuple [.bool true, .bool false]) (.tuple [.bool true, .bool false]) = some true := by rfl
  by_cases h : (x.natAbs : Int) < 1000000000000000000000000000000000000000000000000000000000000 ∧ y < 1000000000000000000000000000000000000000000000000000000000000
  · rw [if_pos h] at sh wr
    have rd := fn_read_number (l := shN x y) (by
      have l1 := numZ_len h.1
      have l2 := numZ_len (t := y) (by omega)
      unfold shN
      split
      · omega
      · rw [List.length_append, List.length_cons]; omega) (cps_shN x y)
    rw [rdN_shN pos h.1 h.2 gc] at rd
    replace rd : Ph.fn 5 [Sx (shN x y)] = some (.ok false (T [x, y]) []) := rd
    have es := eqB_Sx (cps_shN x y) (cps_shN x y)
    rw [decide_eq_true rfl] at es
    have wh := fn__law_wholes (p := [x, y]) (n := 2) rfl (by simp)
    simp only [F15r12_at, F15r11_at, F15r10_at, F15r9_at, F15r8_at, F15r7_at, F15r6_at, F15r5_at, F15r4_at, F15r3_at, F15r2_at, F15r1_at, F15r0_at, WW, WM, runs, runH, noX, evs, evo, evC, ofO, Vl.get, esc, escs, escM, brs, mskOk, backL, gets, vlOf, retV, bindV, seqO, zipO, List.all_cons, List.all_nil, List.any_cons, List.any_nil, id_eq, List.getElem?_cons_zero, List.getElem?_cons_succ, List.set_cons_zero, List.set_cons_succ, List.length_cons, List.length_nil, List.append_nil, List.nil_append, List.cons_append, List.map_cons, List.map_nil, Option.map_some, Option.map_none, Option.bind_some, Bool.not_true, Bool.not_false, Bool.and_true, Bool.true_and, Bool.and_false, Bool.false_and, Bool.or_false, Bool.or_true, Bool.true_or, Bool.false_or, Bool.false_eq_true, if_true, if_false, decide_true, decide_false, eq_self, List.mem_cons, true_or, or_true, List.take_succ_cons, List.take_zero, List.drop_succ_cons, List.drop_zero, List.dropLast_cons₂, List.dropLast_singleton, clean, wipeS, rstS, lcGo, forGo, List.getD_cons_zero, List.getD_cons_succ, List.contains_nil, boolOf, Nat.reduceAdd, Nat.reduceSub, Nat.reduceMul, Nat.reduceLT, Nat.reduceLeDiff, Nat.reduceEqDiff, Int.reduceAdd, Int.reduceSub, Int.reduceMul, Int.reduceNeg, Int.reduceLT, Int.reduceLE, Int.reduceEq, Int.reduceNe, Int.reducePow, Int.reduceToNat, reduceIte, reduceCtorEq, Int.cast_ofNat_Int, Int.natCast_add, Nat.zero_add, f, wr, sh, es, rd, wh]
    exact ⟨_, _, rfl⟩
  · rw [if_neg h] at sh wr
    simp only [F15r12_at, F15r11_at, F15r10_at, F15r9_at, F15r8_at, F15r7_at, F15r6_at, F15r5_at, F15r4_at, F15r3_at, F15r2_at, F15r1_at, F15r0_at, WW, WM, runs, runH, noX, evs, evo, evC, ofO, Vl.get, esc, escs, escM, brs, mskOk, backL, gets, vlOf, retV, bindV, seqO, zipO, List.all_cons, List.all_nil, List.any_cons, List.any_nil, id_eq, List.getElem?_cons_zero, List.getElem?_cons_succ, List.set_cons_zero, List.set_cons_succ, List.length_cons, List.length_nil, List.append_nil, List.nil_append, List.cons_append, List.map_cons, List.map_nil, Option.map_some, Option.map_none, Option.bind_some, Bool.not_true, Bool.not_false, Bool.and_true, Bool.true_and, Bool.and_false, Bool.false_and, Bool.or_false, Bool.or_true, Bool.true_or, Bool.false_or, Bool.false_eq_true, if_true, if_false, decide_true, decide_false, eq_self, List.mem_cons, true_or, or_true, List.take_succ_cons, List.take_zero, List.drop_succ_cons, List.drop_zero, List.dropLast_cons₂, List.dropLast_singleton, clean, wipeS, rstS, lcGo, forGo, List.getD_cons_zero, List.getD_cons_succ, List.contains_nil, boolOf, Nat.reduceAdd, Nat.reduceSub, Nat.reduceMul, Nat.reduceLT, Nat.reduceLeDiff, Nat.reduceEqDiff, Int.reduceAdd, Int.reduceSub, Int.reduceMul, Int.reduceNeg, Int.reduceLT, Int.reduceLE, Int.reduceEq, Int.reduceNe, Int.reducePow, Int.reduceToNat, reduceIte, reduceCtorEq, Int.cast_ofNat_Int, Int.natCast_add, Nat.zero_add, f, wr, sh, tf]
    exact ⟨_, _, rfl⟩
theorem fn__law_once (R : List Int) : ∃ R' : List Int, Ph.fn 15 [Li R] = some (.ok false (.bool true) [Li R']) := by
  suffices h : Yes1 (runs Ph 0 F15r0 [.own true (Li R), .no, .no, .no, .no, .no, .no, .no, .no]) by
    obtain ⟨R', e⟩ := yes1_of (f := F15) rfl h
    exact ⟨R', callP rfl e⟩
  have ok2 : okM 2 = true := by decide
  have ok3 : okM 3 = true := by decide
  obtain ⟨g, R1, hg, e1⟩ := fn__law_great R
  have c1 := fn__law_take ok2 (xs := R1)
  generalize (takeS R1 2).1 = v at c1
  generalize (takeS R1 2).2 = R2 at c1
  obtain ⟨t, ht⟩ : ∃ t : Int, runs Ph 0 F15r0 [.own true (Li R), .no, .no, .no, .no, .no, .no, .no, .no] = runs Ph 0 F15r3 [.own true (Li R2), .val (.int t), .val (.int 1), .no, .no, .no, .no, .no, .no] := by
    by_cases h : v = 1
    · refine ⟨0 - g, ?_⟩
      simp only [F15r0_at, F15r1_at, F15r2_at, WW, WM, runs, runH, noX, evs, evo, evC, ofO, Vl.get, esc, escs, escM, brs, mskOk, backL, gets, vlOf, retV, bindV, seqO, zipO, List.all_cons, List.all_nil, List.any_cons, List.any_nil, id_eq, List.getElem?_cons_zero, List.getElem?_cons_succ, List.set_cons_zero, List.set_cons_succ, List.length_cons, List.length_nil, List.append_nil, List.nil_append, List.cons_append, List.map_cons, List.map_nil, Option.map_some, Option.map_none, Option.bind_some, Bool.not_true, Bool.not_false, Bool.and_true, Bool.true_and, Bool.and_false, Bool.false_and, Bool.or_false, Bool.or_true, Bool.true_or, Bool.false_or, Bool.false_eq_true, if_true, if_false, decide_true, decide_false, eq_self, List.mem_cons, true_or, or_true, List.take_succ_cons, List.take_zero, List.drop_succ_cons, List.drop_zero, List.dropLast_cons₂, List.dropLast_singleton, clean, wipeS, rstS, lcGo, forGo, List.getD_cons_zero, List.getD_cons_succ, List.contains_nil, boolOf, Nat.reduceAdd, Nat.reduceSub, Nat.reduceMul, Nat.reduceLT, Nat.reduceLeDiff, Nat.reduceEqDiff, Int.reduceAdd, Int.reduceSub, Int.reduceMul, Int.reduceNeg, Int.reduceLT, Int.reduceLE, Int.reduceEq, Int.reduceNe, Int.reducePow, Int.reduceToNat, reduceIte, reduceCtorEq, Int.cast_ofNat_Int, Int.natCast_add, Nat.zero_add, e1, c1, h]
    · refine ⟨g, ?_⟩
      simp only [F15r0_at, F15r1_at, F15r2_at, WW, WM, runs, runH, noX, evs, evo, evC, ofO, Vl.get, esc, escs, escM, brs, mskOk, backL, gets, vlOf, retV, bindV, seqO, zipO, List.all_cons, List.all_nil, List.any_cons, List.any_nil, id_eq, List.getElem?_cons_zero, List.getElem?_cons_succ, List.set_cons_zero, List.set_cons_succ, List.length_cons, List.length_nil, List.append_nil, List.nil_append, List.cons_append, List.map_cons, List.map_nil, Option.map_some, Option.map_none, Option.bind_some, Bool.not_true, Bool.not_false, Bool.and_true, Bool.true_and, Bool.and_false, Bool.false_and, Bool.or_false, Bool.or_true, Bool.true_or, Bool.false_or, Bool.false_eq_true, if_true, if_false, decide_true, decide_false, eq_self, List.mem_cons, true_or, or_true, List.take_succ_cons, List.take_zero, List.drop_succ_cons, List.drop_zero, List.dropLast_cons₂, List.dropLast_singleton, clean, wipeS, rstS, lcGo, forGo, List.getD_cons_zero, List.getD_cons_succ, List.contains_nil, boolOf, Nat.reduceAdd, Nat.reduceSub, Nat.reduceMul, Nat.reduceLT, Nat.reduceLeDiff, Nat.reduceEqDiff, Int.reduceAdd, Int.reduceSub, Int.reduceMul, Int.reduceNeg, Int.reduceLT, Int.reduceLE, Int.reduceEq, Int.reduceNe, Int.reducePow, Int.reduceToNat, reduceIte, reduceCtorEq, Int.cast_ofNat_Int, Int.natCast_add, Nat.zero_add, e1, c1, h]
  rw [ht]
  have c2 := fn__law_take ok3 (xs := R2)
  generalize (takeS R2 3).1 = u at c2
  generalize (takeS R2 3).2 = R3 at c2
  by_cases hu : 0 < u
  · obtain ⟨k, R4, hk, e2⟩ := fn__law_great R3
    have mx : bltD .max [.int 1, .int k] = some (.dt (.int (max 1 k))) := by
      have e : (if k > 1 then k else 1) = max 1 k := by split <;> omega
      rw [← e]
      rfl
    have st : runs Ph 0 F15r3 [.own true (Li R2), .val (.int t), .val (.int 1), .no, .no, .no, .no, .no, .no] = runs Ph 0 F15r4 [.own true (Li R4), .val (.int t), .val (.int (max 1 k)), .no, .no, .no, .no, .no, .no] := by
      simp only [F15r3_at, WW, WM, runs, runH, noX, evs, evo, evC, ofO, Vl.get, esc, escs, escM, brs, mskOk, backL, gets, vlOf, retV, bindV, seqO, zipO, List.all_cons, List.all_nil, List.any_cons, List.any_nil, id_eq, List.getElem?_cons_zero, List.getElem?_cons_succ, List.set_cons_zero, List.set_cons_succ, List.length_cons, List.length_nil, List.append_nil, List.nil_append, List.cons_append, List.map_cons, List.map_nil, Option.map_some, Option.map_none, Option.bind_some, Bool.not_true, Bool.not_false, Bool.and_true, Bool.true_and, Bool.and_false, Bool.false_and, Bool.or_false, Bool.or_true, Bool.true_or, Bool.false_or, Bool.false_eq_true, if_true, if_false, decide_true, decide_false, eq_self, List.mem_cons, true_or, or_true, List.take_succ_cons, List.take_zero, List.drop_succ_cons, List.drop_zero, List.dropLast_cons₂, List.dropLast_singleton, clean, wipeS, rstS, lcGo, forGo, List.getD_cons_zero, List.getD_cons_succ, List.contains_nil, boolOf, Nat.reduceAdd, Nat.reduceSub, Nat.reduceMul, Nat.reduceLT, Nat.reduceLeDiff, Nat.reduceEqDiff, Int.reduceAdd, Int.reduceSub, Int.reduceMul, Int.reduceNeg, Int.reduceLT, Int.reduceLE, Int.reduceEq, Int.reduceNe, Int.reducePow, Int.reduceToNat, reduceIte, reduceCtorEq, Int.cast_ofNat_Int, Int.natCast_add, Nat.zero_add, c2, hu, e2, mx]
    rw [st]
    exact once_rest (by omega) (by omega) R4
  · have st : runs Ph 0 F15r3 [.own true (Li R2), .val (.int t), .val (.int 1), .no, .no, .no, .no, .no, .no] = runs Ph 0 F15r4 [.own true (Li R3), .val (.int t), .val (.int 1), .no, .no, .no, .no, .no, .no] := by
      simp only [F15r3_at, WW, WM, runs, runH, noX, evs, evo, evC, ofO, Vl.get, esc, escs, escM, brs, mskOk, backL, gets, vlOf, retV, bindV, seqO, zipO, List.all_cons, List.all_nil, List.any_cons, List.any_nil, id_eq, List.getElem?_cons_zero, List.getElem?_cons_succ, List.set_cons_zero, List.set_cons_succ, List.length_cons, List.length_nil, List.append_nil, List.nil_append, List.cons_append, List.map_cons, List.map_nil, Option.map_some, Option.map_none, Option.bind_some, Bool.not_true, Bool.not_false, Bool.and_true, Bool.true_and, Bool.and_false, Bool.false_and, Bool.or_false, Bool.or_true, Bool.true_or, Bool.false_or, Bool.false_eq_true, if_true, if_false, decide_true, decide_false, eq_self, List.mem_cons, true_or, or_true, List.take_succ_cons, List.take_zero, List.drop_succ_cons, List.drop_zero, List.dropLast_cons₂, List.dropLast_singleton, clean, wipeS, rstS, lcGo, forGo, List.getD_cons_zero, List.getD_cons_succ, List.contains_nil, boolOf, Nat.reduceAdd, Nat.reduceSub, Nat.reduceMul, Nat.reduceLT, Nat.reduceLeDiff, Nat.reduceEqDiff, Int.reduceAdd, Int.reduceSub, Int.reduceMul, Int.reduceNeg, Int.reduceLT, Int.reduceLE, Int.reduceEq, Int.reduceNe, Int.reducePow, Int.reduceToNat, reduceIte, reduceCtorEq, Int.cast_ofNat_Int, Int.natCast_add, Nat.zero_add, c2, hu]
    rw [st]
    exact once_rest (by omega) (by omega) R3

theorem F16r1_at {n : Nat} {x : Slot} {xs : Sl} : runs Ph n F16r1 (x :: xs) = runs Ph n (.cons (.ret (.and (.cons (.call 15 (.cons (.var 1) .nil) []) (.cons (.call 15 (.cons (.var 1) .nil) []) .nil)))) .nil) (x :: xs) := rfl
theorem F16r0_at {n : Nat} {x : Slot} {xs : Sl} : runs Ph n F16r0 (x :: xs) = runs Ph n (.cons (.asg (.nm 1) (.call 6 (.cons (.var 0) .nil) [])) F16r1) (x :: xs) := rfl
/-! law -/
theorem run_law (ns : List Int) : Ph.fn 16 [frzD (ns.map .int)] = some (.ok false (.bool true) []) := by
  obtain ⟨R1, e1⟩ := fn__law_once (rowS ns)
  obtain ⟨R2, e2⟩ := fn__law_once R1
  refine callP (n := 0) (f := F16) rfl (yesL_of rfl ?_)
  show YesL (runs Ph 0 F16r0 [.val (frzD (ns.map .int)), .no])
  simp only [F16r1_at, F16r0_at, WW, WM, runs, runH, noX, evs, evo, evC, ofO, Vl.get, esc, escs, escM, brs, mskOk, backL, gets, vlOf, retV, bindV, seqO, zipO, List.all_cons, List.all_nil, List.any_cons, List.any_nil, id_eq, List.getElem?_cons_zero, List.getElem?_cons_succ, List.set_cons_zero, List.set_cons_succ, List.length_cons, List.length_nil, List.append_nil, List.nil_append, List.cons_append, List.map_cons, List.map_nil, Option.map_some, Option.map_none, Option.bind_some, Bool.not_true, Bool.not_false, Bool.and_true, Bool.true_and, Bool.and_false, Bool.false_and, Bool.or_false, Bool.or_true, Bool.true_or, Bool.false_or, Bool.false_eq_true, if_true, if_false, decide_true, decide_false, eq_self, List.mem_cons, true_or, or_true, List.take_succ_cons, List.take_zero, List.drop_succ_cons, List.drop_zero, List.dropLast_cons₂, List.dropLast_singleton, clean, wipeS, rstS, lcGo, forGo, List.getD_cons_zero, List.getD_cons_succ, List.contains_nil, boolOf, Nat.reduceAdd, Nat.reduceSub, Nat.reduceMul, Nat.reduceLT, Nat.reduceLeDiff, Nat.reduceEqDiff, Int.reduceAdd, Int.reduceSub, Int.reduceMul, Int.reduceNeg, Int.reduceLT, Int.reduceLE, Int.reduceEq, Int.reduceNe, Int.reducePow, Int.reduceToNat, reduceIte, reduceCtorEq, Int.cast_ofNat_Int, Int.natCast_add, Nat.zero_add, fn__law_row, e1, e2]
  exact ⟨_, _, rfl⟩
theorem law_true : ∀ ns : List Int, ns.length ≤ 63 → (∀ z ∈ ns, Builtin.Int.intBits z ≤ 1048576) → ∃ outs, Ph.fn 16 [frzD (ns.map PyData.int)] = some (.ok false (.bool true) outs) := fun ns _ _ => ⟨[], run_law ns⟩

end
section
open PySem PySem.Spec PyProof.Rows L2 Mi
def Tt : Mi.Tx := { fns := tb.map Def.i, cls := clsL, glb := ["FIGURES", "MOST", "GREAT"] }
theorem chkT : (tb.zipIdx.all fun q => okD Tt q.2 q.1) = true := by decide +kernel
theorem chkI : ∀ (i : Nat) (D : Mi.Def), tb[i]? = some D → okD Tt i D = true := fun i D h => by
  have := List.all_eq_true.mp chkT (D, i) (by rw [List.mem_zipIdx_iff_getElem?]; exact h)
  exact this
theorem bd0 : BindOk D0 := bind0 rfl rfl fun _ _ _ _ _ _ us hl => match us, hl with | [_, _], _ => rfl
theorem bd1 : BindOk D1 := bind0 rfl rfl fun _ _ _ _ _ _ us hl => match us, hl with | [_], _ => rfl
theorem bd2 : BindOk D2 := bindD1 rfl rfl (by decide) (fun T kV doc pm an cdv ct us its h1 h2 => match us, its, h1, h2 with | [_, _], [_], _, _ => ⟨_, rfl, rfl⟩) (fun T kV doc pm an cdv ct us its h1 h2 => match us, its, h1, h2 with | [_], [_], _, _ => ⟨_, rfl, rfl⟩)
theorem bd3 : BindOk D3 := bind0 rfl rfl fun _ _ _ _ _ _ us hl => match us, hl with | [_], _ => rfl
theorem bd4 : BindOk D4 := bind0 rfl rfl fun _ _ _ _ _ _ us hl => match us, hl with | [_], _ => rfl
theorem bd5 : BindOk D5 := bind0 rfl rfl fun _ _ _ _ _ _ us hl => match us, hl with | [_], _ => rfl
theorem bd6 : BindOk D6 := bind0 rfl rfl fun _ _ _ _ _ _ us hl => match us, hl with | [_], _ => rfl
theorem bd7 : BindOk D7 := bind0 rfl rfl fun _ _ _ _ _ _ us hl => match us, hl with | [_, _], _ => rfl
theorem bd8 : BindOk D8 := bind0 rfl rfl fun _ _ _ _ _ _ us hl => match us, hl with | [_, _], _ => rfl
theorem bd9 : BindOk D9 := bind0 rfl rfl fun _ _ _ _ _ _ us hl => match us, hl with | [_], _ => rfl
theorem bd10 : BindOk D10 := bind0 rfl rfl fun _ _ _ _ _ _ us hl => match us, hl with | [_], _ => rfl
theorem bd11 : BindOk D11 := bind0 rfl rfl fun _ _ _ _ _ _ us hl => match us, hl with | [_, _], _ => rfl
theorem bd12 : BindOk D12 := bind0 rfl rfl fun _ _ _ _ _ _ us hl => match us, hl with | [_, _], _ => rfl
theorem bd13 : BindOk D13 := bind0 rfl rfl fun _ _ _ _ _ _ us hl => match us, hl with | [_, _], _ => rfl
theorem bd14 : BindOk D14 := bind0 rfl rfl fun _ _ _ _ _ _ us hl => match us, hl with | [_], _ => rfl
theorem bd15 : BindOk D15 := bind0 rfl rfl fun _ _ _ _ _ _ us hl => match us, hl with | [_], _ => rfl
theorem bd16 : BindOk D16 := bind0 rfl rfl fun _ _ _ _ _ _ us hl => match us, hl with | [_], _ => rfl
theorem bds : ∀ D ∈ tb, BindOk D := by
  intro D h
  have h : D ∈ [D0, D1, D2, D3, D4, D5, D6, D7, D8, D9, D10, D11, D12, D13, D14, D15, D16] := h
  simp only [List.mem_cons, List.not_mem_nil, or_false] at h
  rcases h with rfl | rfl | rfl | rfl | rfl | rfl | rfl | rfl | rfl | rfl | rfl | rfl | rfl | rfl | rfl | rfl | rfl
  · exact bd0
  · exact bd1
  · exact bd2
  · exact bd3
  · exact bd4
  · exact bd5
  · exact bd6
  · exact bd7
  · exact bd8
  · exact bd9
  · exact bd10
  · exact bd11
  · exact bd12
  · exact bd13
  · exact bd14
  · exact bd15
  · exact bd16
def fa0 : List He.Fa := [.glo "divisor", .glo "lowest", .glo "fraction", .glo "are_figures", .glo "shown_number", .glo "read_number", .glo "_law_row", .glo "_law_take", .glo "_law_gcd", .glo "_law_lowest", .glo "_law_whole", .glo "_law_wholes", .glo "_law_frac", .glo "_law_written", .glo "_law_great", .glo "_law_once", .glo "law", .free "abs", .free "len", .free "int", .free "sum", .free "all", .free "any", .free "tuple", .free "list", .free "min", .free "max", .free "sorted", .free "str", .free "dict"]
def fa1 : List He.Fa := [.free "range", .free "enumerate", .free "zip", .free "isinstance", .free "bool", .free "set", .str "FIGURES" (SX.S [48, 49, 50, 51, 52, 53, 54, 55, 56, 57]), .int "MOST" 60, .int "GREAT" 1000000000000000000000000000000000000000000000000000000000000]
def fa : List He.Fa := fa0 ++ fa1
theorem hfb : ∀ x ∈ blts, He.Fa.free x ∈ fa := by
  have : (blts.all fun x => fa.any fun f => match f with | .free y => decide (x = y) | _ => false) = true := by decide +kernel
  intro x hx
  have := List.all_eq_true.mp this x hx
  obtain ⟨f, hf, e⟩ := List.any_eq_true.mp this
  cases f <;> try cases e
  rename_i y
  rw [of_decide_eq_true e]
  exact hf
theorem hat : ∀ D ∈ tb, D.d.at_ = (D.d.name, none) ∧ He.Fa.glo D.d.name ∈ fa := by
  have : (tb.all fun D => decide (D.d.at_ = (D.d.name, none)) && fa.any fun f => match f with | .glo y => decide (D.d.name = y) | _ => false) = true := by decide +kernel
  intro D hD
  have := List.all_eq_true.mp this D hD
  simp only [Bool.and_eq_true, decide_eq_true_eq] at this
  obtain ⟨f, hf, e⟩ := List.any_eq_true.mp this.2
  refine ⟨this.1, ?_⟩
  cases f <;> try cases e
  rename_i y
  rw [of_decide_eq_true e]
  exact hf
theorem hmF : (tb.zipIdx.all fun q => match fnl[q.2]? with | some f => true | none => false) = true := by decide +kernel
theorem hfs : fnl = tb.map (·.F) := rfl
theorem hmk : ∀ (i : Nat) (D : Mi.Def), tb[i]? = some D → Ph.mask i = D.F.mask := fun i D h => by
  have e : fnl[i]? = some D.F := by rw [hfs, List.getElem?_map, h]; rfl
  show (match fnl[i]? with | some f => f.mask | none => []) = _
  rw [e]
theorem hphi : ∀ (i : Nat) (D : Mi.Def), tb[i]? = some D → ∀ ds r, Ph.fn i ds = some r → ∃ n, runFn Ph n D.F ds = some r := fun i D h ds r q => by
  have e : fnl[i]? = some D.F := by rw [hfs, List.getElem?_map, h]; rfl
  exact Pr.E_run e q
abbrev Ro : PySem.W.OpenRow := PySem.W.OpenLaw.row PySem.Challenge.rw_scissorhall_k80_numbers_written
abbrev hk : PySem.W.Hook := hookM 4 fa (tb.map (·.d)) (clB clsL und)
def ob (s : PySem.W.SharedT) : He.AlD × Bool := lookM 4 fa (tb.map (·.d)) (clB clsL und) (HandSHeadRun.getT s)
theorem ob_eq (s : PySem.W.SharedT) : ob s = hk.obs s.abs := lookM_eq (HandSHeadRun.getT_eq s)
def loose0 : List PySem.Str := ["divisor", "lowest", "fraction", "are_figures", "shown_number", "read_number", "_law_row", "_law_take", "_law_gcd", "_law_lowest", "_law_whole", "_law_wholes", "_law_frac", "_law_written", "_law_great", "_law_once", "HallError", "NoNumber", "NoText", "TooGreat", "FIGURES", "MOST", "GREAT"]
def loose : List PySem.Str := loose0
theorem run (w : World) : HandSHeadRun.RunEq Ro (PySem.W.view Ro.prog [27]) hk ob 4000 loose w := by
  intro os
  kernel_rfl
theorem at_law {w : World} {K : PySem.W.Frag} {h : Heap} {mg : Str → Option Value} {fl : Addr} (KX : K.In h) (G : h.Ns mainGlobals mg) (hmg : mg ("law" : Str) = some (.ref fl)) (c : He.SaysD fa (tb.map (·.d)) K) (cc : clB clsL und K = true) :
    LamX.LawAtS PySem.Challenge.rw_scissorhall_k80_numbers_written w K (L2.CX (PySem.Challenge.rw_scissorhall_k80_numbers_written).prog w) 17 63 "_law_script" mg fl h :=
  law_at (T := Tt) (Φ := Ph) tb fa 16 D16 KX G hmg c rfl (clss_of KX G cc) hfb (fun k x h => match k, h with
    | 0, h => by
      have h2 : some ("FIGURES" : PySem.Str) = some x := h
      cases h2
      obtain ⟨t, e⟩ := He.str_ok KX G (c.facts (List.mem_of_getElem? (l := fa) (i := 36) (a := .str "FIGURES" (SX.S [48, 49, 50, 51, 52, 53, 54, 55, 56, 57])) (by rfl)))
      exact ⟨.str _, _, e, ⟨t, rfl⟩, fun H => .str _⟩
    | 1, h => by
      have h2 : some ("MOST" : PySem.Str) = some x := h
      cases h2
      obtain ⟨t, e⟩ := He.int_ok KX G (c.facts (List.mem_of_getElem? (l := fa) (i := 37) (a := .int "MOST" 60) (by rfl)))
      exact ⟨.int _, _, e, ⟨t, rfl⟩, fun H => .int _⟩
    | 2, h => by
      have h2 : some ("GREAT" : PySem.Str) = some x := h
      cases h2
      obtain ⟨t, e⟩ := He.int_ok KX G (c.facts (List.mem_of_getElem? (l := fa) (i := 38) (a := .int "GREAT" 1000000000000000000000000000000000000000000000000000000000000) (by rfl)))
      exact ⟨.int _, _, e, ⟨t, rfl⟩, fun H => .int _⟩
    | n + 3, h => by
      have h2 : (none : Option PySem.Str) = some x := h
      cases h2) hat bds chkI hphi hmk rfl rfl rfl
    (fun F => bindA rfl rfl (fun _ _ _ _ _ _ us hl => match us, hl with | [_], _ => rfl) F) rfl law_true
end
end Kl
open PySem PySem.W PySem.Calls PyProof.Rows
theorem PySem.Challenge.cw_scissorhall_k80_numbers_written_holds : PySem.Challenge.rw_scissorhall_k80_numbers_written.Holds := by
  w_on; o_law
  refine HandSHeadRun.head_any (r := OpenLaw.row PySem.Challenge.rw_scissorhall_k80_numbers_written) (q := view (OpenLaw.row PySem.Challenge.rw_scissorhall_k80_numbers_written).prog [27]) (H := Kl.hk) (ob := Kl.ob) (M := 4000) (loose := Kl.loose) (d := HandSHeadRun.topDef (OpenLaw.row PySem.Challenge.rw_scissorhall_k80_numbers_written).prog 27) (kwd := []) Kl.ob_eq
    (by kernel_rfl) (fun s => by kernel_rfl) Kl.run (by kernel_rfl) (by kernel_rfl) (by kernel_rfl) (by rfl) (by first | assumption | decide +kernel) (by decide +kernel) ⟨rfl, rfl, rfl, rfl, rfl, by decide +kernel⟩ ?hw ?hc
  case hw => w_witness2
  case hc =>
    refine LamX.walk_ofTsE (l := PySem.Challenge.rw_scissorhall_k80_numbers_written) (n := 63) (k := 17) (x := "_law_script") (CX := fun w => L2.CX (PySem.Challenge.rw_scissorhall_k80_numbers_written).prog w) rfl (by decide) (by kernel_rfl) ⟨rfl, by decide, by decide⟩ ?F (fun w H s e s' z => Mi.cx_none H s e s' z)
    intro w mg fl h Y G hmg0
    obtain ⟨K, KX, c, cc⟩ := Y
    have hmg : mg ("law" : PySem.Str) = some (.ref fl) := by
      have e : (HandSHeadRun.topDef (OpenLaw.row PySem.Challenge.rw_scissorhall_k80_numbers_written).prog 27).name = ("law" : PySem.Str) := by kernel_rfl
      rw [← e]
      exact hmg0
    exact ⟨K, KX, Kl.at_law KX G hmg c cc⟩
