import PyProof.Rows.All
import Wide.All
import OpenK.AllK
import Wide.FinOn
import HandS.ForMost
import HandS.Dict
import HandS.Iter
import HandS.Comp
import HandS.Lambda
import HandS.Walk
import HandS.Zip
import HandS.TupAny
import HandS.Text
import HandS.More
import HandS.Deep
import HandS.IsInst
import HandS.WordsExc
import HandS.WordsDict
import HandS.ListItems
import HandS.Style
import KE.SortData
import HandS.FStrTup
import HandS.ExcOwn
import PyProof.DictUpdate
import KE.GoesMore
import HandS.Ends
import HandS.EndTab
import HandS.ExcIs
import KE.KStateDown
import HandS.Head0
import HandS.Head1
import HandS.Head2
import HandS.HeadEnd
import HandS.HeadHook1
import HandS.HeadHook2
import HandS.HeadHook3
import HandS.HeadHook4
import HandS.HeadWalk
import Wide.Once
import PySem.Challenge.RW_everybook_k64_straight_asks_and_others
section
/-! EvC: a small evaluator for the Python subset of the linked texts. Core Lean alone.
Tuples, lists and dicts are values; a list or dict that a def still builds stands in its slot (own); what several defs write stands in a heap (ref). `bad`: not told. -/
set_option autoImplicit false
set_option linter.all false
namespace Ev

abbrev S := List Nat
/-- keys of dicts -/
inductive K0 where
  | i (i : Int) | s (s : S)
  deriving DecidableEq, Inhabited
/-- values; `fro`: a list that is only read (the script); `rep v`: the text that repr tells of v -/
inductive EV where
  | non | bl (b : Bool) | int (i : Int) | str (s : S) | tup (xs : List EV) | lst (xs : List EV) | dct (ks : List K0) (vs : List EV) | fro (xs : List EV) | ref (n : Nat) | rep (v : EV)
  deriving Inhabited
/-- shared objects: a list -/
abbrev Hh := List (List EV)
inductive Res (α : Type) where
  | ok (a : α) (h : Hh)
  | exc (c : Nat) (h : Hh)
  | bad
variable {α β γ : Type}
def Res.bind (r : Res α) (f : α → Hh → Res β) : Res β :=
  match r with
  | .ok a h => f a h
  | .exc x h => .exc x h
  | .bad => .bad
@[simp] theorem Res.bind_ok (a : α) (h : Hh) (f : α → Hh → Res β) : (Res.ok a h).bind f = f a h := (rfl)
@[simp] theorem Res.bind_exc (x : Nat) (h : Hh) (f : α → Hh → Res β) : (Res.exc x h : Res α).bind f = .exc x h := (rfl)
@[simp] theorem Res.bind_bad (f : α → Hh → Res β) : (Res.bad : Res α).bind f = .bad := (rfl)

/-- a slot: a value, or a list or dict that is built here -/
inductive SV where
  | val (v : EV) | oL (xs : List EV) | oD (ks : List K0) (vs : List EV)
  deriving Inhabited
abbrev Env := List (Option SV)
abbrev M := Env → Hh → Res EV
abbrev MN := Env → Hh → Res (List EV)
abbrev Op1 := EV → Hh → Res EV
abbrev Op2 := EV → EV → Hh → Res EV
abbrev OpN := List EV → Hh → Res EV

/-- the line of sizes -/
def L : Nat := 16777216

/-! ### equality -/
mutual
def eqv : EV → EV → Bool
  | .non, .non => true
  | .bl a, .bl b => a == b
  | .bl a, .int j => (if a then 1 else 0) == j
  | .int i, .bl b => i == (if b then 1 else 0)
  | .int i, .int j => i == j
  | .str x, .str y => x == y
  | .lst xs, .lst ys => eqvs xs ys
  | .tup xs, .tup ys => eqvs xs ys
  | _, _ => false
def eqvs : List EV → List EV → Bool
  | [], [] => true
  | x :: xs, y :: ys => eqv x y && eqvs xs ys
  | _, _ => false
end
/-! data that can be compared, at most so deep -/
mutual
def shp : Nat → EV → Bool
  | _, .non => true
  | _, .bl _ => true
  | _, .int _ => true
  | _, .str _ => true
  | n + 1, .lst xs => shps n xs
  | n + 1, .tup xs => shps n xs
  | _, _ => false
def shps : Nat → List EV → Bool
  | _, [] => true
  | n, x :: xs => shp n x && shps n xs
end

/-! ### operators -/
def okB (b : Bool) (h : Hh) : Res EV := .ok (.bl b) h
def powI (i j : Int) : Int := i ^ j.toNat
def opAdd : Op2 := fun x y h => match x, y with
  | .int i, .int j => .ok (.int (i + j)) h
  | .str a, .str b => if a.length + b.length ≤ L then .ok (.str (a ++ b)) h else .bad
  | .tup a, .tup b => if a.length + b.length ≤ L then .ok (.tup (a ++ b)) h else .bad
  | .lst a, .lst b => if a.length + b.length ≤ L then .ok (.lst (a ++ b)) h else .bad
  | _, _ => .bad
def opSub : Op2 := fun x y h => match x, y with
  | .int i, .int j => .ok (.int (i - j)) h
  | _, _ => .bad
def small (i : Int) : Bool := decide (-18446744073709551616 < i) && decide (i < 18446744073709551616)
def opMul : Op2 := fun x y h => match x, y with
  | .int i, .int j => if small i || small j then .ok (.int (i * j)) h else .bad
  | _, _ => .bad
def opFdiv : Op2 := fun x y h => match x, y with
  | .int i, .int j => if decide (0 < j) && decide (j < 1073741824) then .ok (.int (i / j)) h else .bad
  | _, _ => .bad
def opMod : Op2 := fun x y h => match x, y with
  | .int i, .int j => if decide (0 < j) then .ok (.int (i % j)) h else .bad
  | _, _ => .bad
def opPow : Op2 := fun x y h => match x, y with
  | .int i, .int j => if decide (0 ≤ j) && decide (j ≤ 1000000) && small i then .ok (.int (powI i j)) h else .bad
  | _, _ => .bad
inductive Op where
  | add | sub | mul | fdiv | mod | pow
  deriving DecidableEq
def Op.run : Op → Op2
  | .add => opAdd | .sub => opSub | .mul => opMul | .fdiv => opFdiv | .mod => opMod | .pow => opPow
def opNeg : Op1 := fun x h => match x with
  | .int i => .ok (.int (-i)) h
  | _ => .bad

/-! ### comparisons -/
def eqR (x y : EV) : Option Bool := if shp 60 x && shp 60 y then some (eqv x y) else none
mutual
def samE : EV → EV → Bool
  | .non, .non => true
  | .bl a, .bl b => a == b
  | .int i, .int j => i == j
  | .str x, .str y => x == y
  | .lst xs, .lst ys => samEs xs ys
  | .tup xs, .tup ys => samEs xs ys
  | _, _ => false
def samEs : List EV → List EV → Bool
  | [], [] => true
  | x :: xs, y :: ys => samE x y && samEs xs ys
  | _, _ => false
end
/-- two texts that repr told: of two truths, or of one thing -/
def repEq : EV → EV → Option Bool
  | .bl a, .bl b => some (a == b)
  | v, w => if samE v w then some true else none
def eqQ (x y : EV) : Option Bool := match x, y with
  | .rep v, .rep w => repEq v w
  | x, y => eqR x y
def opEq : Op2 := fun x y h => match eqQ x y with
  | some b => okB b h
  | none => .bad
def opNe : Op2 := fun x y h => match eqQ x y with
  | some b => okB (!b) h
  | none => .bad
def strLt (a b : S) : Bool := decide (a < b)
def opLt : Op2 := fun x y h => match x, y with
  | .int i, .int j => okB (decide (i < j)) h
  | .str a, .str b => okB (strLt a b) h
  | _, _ => .bad
def opLe : Op2 := fun x y h => match x, y with
  | .int i, .int j => okB (decide (i ≤ j)) h
  | .str a, .str b => okB (!strLt b a) h
  | _, _ => .bad
def opGt : Op2 := fun x y h => match x, y with
  | .int i, .int j => okB (decide (j < i)) h
  | _, _ => .bad
def opGe : Op2 := fun x y h => match x, y with
  | .int i, .int j => okB (decide (j ≤ i)) h
  | _, _ => .bad
/-- is, is not: the right side nothing; or two truths -/
def opIs : Op2 := fun x y h => match x, y with
  | .bl a, .bl b => okB (a == b) h
  | .non, .non => okB true h
  | _, .non => okB false h
  | _, _ => .bad
def opIsNot : Op2 := fun x y h => match x, y with
  | .bl a, .bl b => okB (!(a == b)) h
  | .non, .non => okB false h
  | _, .non => okB true h
  | _, _ => .bad
def keyOf : EV → Option K0
  | .int i => some (.i i)
  | .str s => some (.s s)
  | _ => none
def kEV : K0 → EV
  | .i i => .int i
  | .s s => .str s
/-- a dict's value at a key -/
def dget : List K0 → List EV → K0 → Option EV
  | k :: ks, v :: vs, q => if k = q then some v else dget ks vs q
  | _, _, _ => none
/-- a dict's values behind d[q] = x; where q is new: its keys -/
def dputV : List K0 → List EV → K0 → EV → List EV
  | k :: ks, v :: vs, q, x => if k = q then x :: vs else v :: dputV ks vs q x
  | _, _, _, x => [x]
def dputK (ks : List K0) (q : K0) : List K0 := if q ∈ ks then ks else ks ++ [q]
/-- a leaf: nothing, a truth, a number, a text -/
def flat : EV → Bool
  | .non | .bl _ | .int _ | .str _ => true
  | _ => false
/-- x in y -/
def inR (x y : EV) : Option Bool := match y with
  | .str b => (match x with
    | .str [c] => some (decide (c ∈ b))
    | _ => none)
  | .tup ys => if flat x && ys.all flat then some (ys.any fun z => eqv z x) else none
  | .lst ys => if shp 60 x && shps 60 ys then some (ys.any fun z => eqv z x) else none
  | .dct ks _ => (keyOf x).map fun k => decide (k ∈ ks)
  | _ => none
def opIn : Op2 := fun x y h => match inR x y with
  | some b => okB b h
  | none => .bad
def opNotIn : Op2 := fun x y h => match inR x y with
  | some b => okB (!b) h
  | none => .bad
inductive Cp where
  | eq | ne | lt | le | gt | ge | is_ | isnot | in_ | notin
  deriving DecidableEq
def Cp.run : Cp → Op2
  | .eq => opEq | .ne => opNe | .lt => opLt | .le => opLe | .gt => opGt | .ge => opGe | .is_ => opIs | .isnot => opIsNot | .in_ => opIn | .notin => opNotIn

/-! ### subscripts -/
def ixAt (n : Nat) (i : Int) : Option Nat :=
  if 0 ≤ i then (if i < n then some i.toNat else none) else (if -(n : Int) ≤ i then some (i + n).toNat else none)
def atX {α : Type} (xs : List α) (i : Int) : Option α := (ixAt xs.length i).bind fun j => xs[j]?
def opIdx : Op2 := fun x y h => match x, y with
  | .tup xs, .int i => (match atX xs i with
    | some v => .ok v h
    | none => .bad)
  | .lst xs, .int i => (match atX xs i with
    | some v => .ok v h
    | none => .bad)
  | .fro xs, .int i => (match atX xs i with
    | some v => .ok v h
    | none => .bad)
  | .str s, .int i => (match atX s i with
    | some c => .ok (.str [c]) h
    | none => .bad)
  | .ref n, .int i => (match h[n]? with
    | some xs => (match atX xs i with
      | some v => .ok v h
      | none => .bad)
    | none => .bad)
  | .dct ks vs, y => (match keyOf y with
    | some k => (match dget ks vs k with
      | some v => .ok v h
      | none => .bad)
    | none => .bad)
  | _, _ => .bad
/-- a slice's bound -/
def sIx (n : Nat) (d : Nat) : Option Int → Nat
  | none => d
  | some i => if i < 0 then (i + n).toNat else min i.toNat n
def cut {α : Type} (xs : List α) (lo hi : Option Int) : List α := (xs.drop (sIx xs.length 0 lo)).take (sIx xs.length xs.length hi - sIx xs.length 0 lo)
def opCut (x : EV) (lo hi : Option Int) (h : Hh) : Res EV := match x with
  | .tup xs => .ok (.tup (cut xs lo hi)) h
  | .lst xs => .ok (.lst (cut xs lo hi)) h
  | .fro xs => .ok (.lst (cut xs lo hi)) h
  | _ => .bad
/-- o[i] = v of a shared list -/
def setAt (o i v : EV) (h : Hh) : Option Hh := match o, i with
  | .ref n, .int k => (match h[n]? with
    | some xs => (match ixAt xs.length k with
      | some j => some (h.set n (xs.set j v))
      | none => none)
    | none => none)
  | _, _ => none

/-! ### what loops walk -/
def pair2 : List EV → List EV → List EV
  | x :: xs, y :: ys => .tup [x, y] :: pair2 xs ys
  | _, _ => []
def enumF : Nat → List EV → List EV
  | _, [] => []
  | i, x :: xs => .tup [.int i, x] :: enumF (i + 1) xs
def items (ks : List K0) (vs : List EV) : List EV := pair2 (ks.map kEV) vs
def rangeF (lo : Int) : Nat → List EV
  | 0 => []
  | n + 1 => .int lo :: rangeF (lo + 1) n
/-- the items of a thing that is walked as it is -/
def seqOf : EV → Option (List EV)
  | .tup xs => some xs
  | .lst xs => some xs
  | .fro xs => some xs
  | .str s => some (s.map fun c => .str [c])
  | _ => none
def listOf : EV → Option (List EV)
  | .lst xs => some xs
  | _ => none

/-! ### builtins -/
inductive Ty where
  | int | bool | str | tuple | dict
  deriving DecidableEq
def isTy : Ty → EV → Option Bool
  | t, .non => some false
  | t, .bl _ => some (t == .bool || t == .int)
  | t, .int _ => some (t == .int)
  | t, .str _ => some (t == .str)
  | t, .tup _ => some (t == .tuple)
  | t, .lst _ => some false
  | t, .dct _ _ => some (t == .dict)
  | _, _ => none
def isBl : EV → Bool
  | .bl _ => true
  | _ => false
def trueBl : EV → Bool
  | .bl b => b
  | _ => false
/-- the order of what can be sorted: texts; tuples of (text, text, truth) -/
def lt3 (a : S) (b : S) (c : Bool) (a' : S) (b' : S) (c' : Bool) : Bool := if a == a' then (if b == b' then !c && c' else strLt b b') else strLt a a'
def leV : EV → EV → Bool
  | .str a, .str b => !strLt b a
  | .tup [.str a, .str b, .bl c], .tup [.str a', .str b', .bl c'] => !lt3 a' b' c' a b c
  | _, _ => true
def isSt : EV → Bool
  | .str _ => true
  | _ => false
def isT3 : EV → Bool
  | .tup [.str _, .str _, .bl _] => true
  | _ => false
def sortV (xs : List EV) : Option (List EV) := if xs.all isSt || xs.all isT3 then some (xs.mergeSort leV) else none
/-- dict(pairs), by d[k] = v -/
def dictOf : List EV → List K0 → List EV → Option (List K0 × List EV)
  | [], ks, vs => some (ks, vs)
  | .tup [k, v] :: r, ks, vs => (match keyOf k with
    | some q => dictOf r (dputK ks q) (dputV ks vs q v)
    | none => none)
  | _, _, _ => none
/-- d.update(e) -/
def dmerge : List K0 → List EV → List K0 → List EV → List K0 × List EV
  | k :: r, v :: rv, ks, vs => dmerge r rv (dputK ks k) (dputV ks vs k v)
  | _, _, ks, vs => (ks, vs)
inductive Bi where
  | len | int_ | abs | all | sorted | tuple | list | dict | isinst (t : Ty) | items | repr
  deriving DecidableEq
/-! how long repr's text may be, at most -/
mutual
def rsz : EV → Nat
  | .str s => 10 * s.length + 8
  | .tup xs => rszs xs + 8
  | .lst xs => rszs xs + 8
  | _ => 48
def rszs : List EV → Nat
  | [] => 0
  | x :: xs => rsz x + 2 + rszs xs
end
/-! what repr tells: no list, no dict, no great number -/
mutual
def rok : EV → Bool
  | .non => true
  | .bl _ => true
  | .int i => decide (-1000000000000 < i) && decide (i < 1000000000000)
  | .str _ => true
  | .tup xs => roks xs
  | _ => false
def roks : List EV → Bool
  | [] => true
  | x :: xs => rok x && roks xs
end
def runBi : Bi → OpN
  | .len, [x], h => (match x with
    | .str s => .ok (.int s.length) h
    | .tup xs => .ok (.int xs.length) h
    | .lst xs => .ok (.int xs.length) h
    | .fro xs => .ok (.int xs.length) h
    | .dct ks _ => .ok (.int ks.length) h
    | _ => .bad)
  | .int_, [x], h => (match x with
    | .int i => .ok (.int i) h
    | .bl b => .ok (.int (if b then 1 else 0)) h
    | _ => .bad)
  | .abs, [x], h => (match x with
    | .int i => .ok (.int (if i < 0 then -i else i)) h
    | _ => .bad)
  | .all, [x], h => (match x with
    | .lst xs => if xs.all isBl then okB (xs.all trueBl) h else .bad
    | _ => .bad)
  | .sorted, [x], h => (match x with
    | .lst xs => (match sortV xs with
      | some ys => .ok (.lst ys) h
      | none => .bad)
    | .dct ks _ => if decide (ks.length < 64) && (ks.map kEV).all isSt then .ok (.lst ((ks.map kEV).mergeSort leV)) h else .bad
    | _ => .bad)
  | .tuple, [x], h => (match x with
    | .lst xs => .ok (.tup xs) h
    | .tup xs => .ok (.tup xs) h
    | _ => .bad)
  | .list, [x], h => (match x with
    | .lst xs => .ok (.lst xs) h
    | .tup xs => .ok (.lst xs) h
    | _ => .bad)
  | .dict, [x], h => (match x with
    | .lst xs => (match dictOf xs [] [] with
      | some (ks, vs) => .ok (.dct ks vs) h
      | none => .bad)
    | .dct ks vs => .ok (.dct ks vs) h
    | _ => .bad)
  | .isinst t, [x], h => (match isTy t x with
    | some b => okB b h
    | none => .bad)
  | .items, [x], h => (match x with
    | .dct ks vs => .ok (.lst (Ev.items ks vs)) h
    | _ => .bad)
  | .repr, [x], h => if rok x && shp 40 x && decide (rsz x ≤ 1000000) then .ok (.rep x) h else .bad
  | _, _, _ => .bad
/-- the places of a sign in a text -/
def splitS (c : Nat) : S → List S
  | [] => [[]]
  | x :: r => if x = c then [] :: splitS c r else (match splitS c r with
    | p :: ps => (x :: p) :: ps
    | [] => [[x]])

/-! ### the syntax -/
inductive T where
  | nm (i : Nat) | tup (ts : List T)
  deriving Inhabited
mutual
def T.put : T → EV → Env → Option Env
  | .nm i, v, env => some (env.set i (some (.val v)))
  | .tup ts, v, env => match v with
    | .tup xs => puts ts xs env
    | _ => none
def puts : List T → List EV → Env → Option Env
  | [], [], env => some env
  | t :: ts, x :: xs, env => (match t.put x env with
    | some e => puts ts xs e
    | none => none)
  | _, _, _ => none
end
mutual
inductive E where
  | var (i : Nat) | non | bl (b : Bool) | int (i : Int) | str (s : S) | glob (g : Nat)
  | tup (es : Es) | lst (es : Es) | dnew
  | op (o : Op) (a b : E) | neg (a : E) | not_ (a : E) | and_ (a b : E) | or_ (a b : E) | cmp (c : Cp) (a b : E) | chain (a : E) (c : Cp) (b : E) (d : Cp) (e : E)
  | ite (t a b : E) | idx (a b : E) | cut (a : E) (lo hi : Bd)
  | call (f : Nat) (es : Es) | bi (b : Bi) (a : E) | get (d k : E) | split (a : E) (c : Nat) | index (l x : E)
  | comp (t : T) (own : List Nat) (s : Sr) (test : E) (elt : E)
  | lenO (i : Nat) | idxO (i : Nat) (a : E) | inO (a : E) (i : Nat) (neg : Bool)
  | inG (a : E) (g : Nat) | idxG (g : Nat) (a : E)
inductive Es where
  | nil | cons (e : E) (es : Es)
inductive Bd where
  | no | so (e : E)
inductive Sr where
  | of (e : E) | range1 (e : E) | range2 (a b : E) | enum (e : E) | enumT (e : E) | zip (a b : E) | keys (i : Nat) | keysO (i : Nat)
end
mutual
inductive St where
  | asg (t : T) (e : E) | own (i : Nat) (e : E) | par2 (i j : Nat) (o1 o2 : Bool) (a b : E) | setR (o k v : E) | setO (i : Nat) (k v : E) | app (i : Nat) (e : E) | upd (i : Nat) (e : E)
  | ex (e : E) | ret (e : E) | retOwn (i : Nat) | ite (t : E) (a b : Sts) | for_ (t : T) (s : Sr) (b : Sts) | raise_ (c : Nat) | pass_
  | freeze (i : Nat) | share (i : Nat) | spec (n : Nat)
inductive Sts where
  | nil | cons (s : St) (r : Sts)
end

/-! ### evaluation -/
inductive SRes where
  | nx (env : Env) (h : Hh) | rt (v : EV) (h : Hh) | exc (c : Nat) (h : Hh) | bad
abbrev MS := Env → Hh → SRes
structure Cxt where
  callF : Nat → List EV → Hh → Res EV
  glob : Nat → EV
  dct : Nat → List K0 × List EV
  spec : Nat → MS
def wipe (env : Env) : List Nat → Env
  | [] => env
  | i :: r => wipe (env.set i none) r
/-- the turns of a list comprehension -/
def comps (t : T) (test elt : M) (env0 : Env) : List EV → List EV → Hh → Res (List EV)
  | [], acc, h => .ok acc h
  | v :: r, acc, h => (match t.put v env0 with
    | some env1 => (match test env1 h with
      | .ok (.bl true) h1 => (match elt env1 h1 with
        | .ok x h2 => if acc.length < L then comps t test elt env0 r (acc ++ [x]) h2 else .bad
        | _ => .bad)
      | .ok (.bl false) h1 => comps t test elt env0 r acc h1
      | _ => .bad)
    | none => .bad)
def valAt (env : Env) (i : Nat) : Option EV := match env[i]? with
  | some (some (.val v)) => some v
  | _ => none
def small62 (i : Int) : Bool := decide (-4611686018427387904 ≤ i) && decide (i < 4611686018427387904)
variable (C : Cxt)
mutual
def ev : E → M
  | .var i => fun env h => (match valAt env i with
    | some v => .ok v h
    | none => .bad)
  | .non => fun _ h => .ok .non h
  | .bl b => fun _ h => .ok (.bl b) h
  | .int i => fun _ h => .ok (.int i) h
  | .str s => fun _ h => .ok (.str s) h
  | .glob g => fun _ h => .ok (C.glob g) h
  | .tup es => fun env h => (evs es env h).bind fun xs h => if xs.length ≤ L then .ok (.tup xs) h else .bad
  | .lst es => fun env h => (evs es env h).bind fun xs h => if xs.length ≤ L then .ok (.lst xs) h else .bad
  | .dnew => fun _ h => .ok (.dct [] []) h
  | .op o a b => fun env h => (ev a env h).bind fun x h => (ev b env h).bind fun y h => o.run x y h
  | .neg a => fun env h => (ev a env h).bind fun x h => opNeg x h
  | .not_ a => fun env h => (ev a env h).bind fun x h => (match x with
    | .bl b => okB (!b) h
    | _ => .bad)
  | .and_ a b => fun env h => (ev a env h).bind fun x h => (match x with
    | .bl true => ev b env h
    | .bl false => okB false h
    | _ => .bad)
  | .or_ a b => fun env h => (ev a env h).bind fun x h => (match x with
    | .bl false => ev b env h
    | .bl true => okB true h
    | _ => .bad)
  | .cmp c a b => fun env h => (ev a env h).bind fun x h => (ev b env h).bind fun y h => c.run x y h
  | .chain a c b d e => fun env h => (ev a env h).bind fun x h => (ev b env h).bind fun y h => (c.run x y h).bind fun r h => (match r with
    | .bl true => (ev e env h).bind fun z h => d.run y z h
    | .bl false => okB false h
    | _ => .bad)
  | .ite t a b => fun env h => (ev t env h).bind fun x h => (match x with
    | .bl true => ev a env h
    | .bl false => ev b env h
    | _ => .bad)
  | .idx a b => fun env h => (ev a env h).bind fun x h => (ev b env h).bind fun y h => opIdx x y h
  | .cut a lo hi => fun env h => (ev a env h).bind fun x h => (evb lo env h).bind fun l h => (evb hi env h).bind fun u h => opCut x l u h
  | .call f es => fun env h => (evs es env h).bind fun xs h => C.callF f xs h
  | .bi b a => fun env h => (ev a env h).bind fun x h => runBi b [x] h
  | .get d k => fun env h => (ev d env h).bind fun x h => (match x with
    | .dct ks vs => (ev k env h).bind fun y h => (match keyOf y with
      | some q => .ok ((dget ks vs q).getD .non) h
      | none => .bad)
    | _ => .bad)
  | .split a c => fun env h => (ev a env h).bind fun x h => (match x with
    | .str s => if s.length + 2 ≤ L then .ok (.lst ((splitS c s).map .str)) h else .bad
    | _ => .bad)
  | .index l x => fun env h => (ev l env h).bind fun l h => (match l with
    | .lst xs => (ev x env h).bind fun y h => if flat y && xs.all flat then (match xs.findIdx? (fun z => eqv z y) with
      | some j => .ok (.int j) h
      | none => .bad) else .bad
    | _ => .bad)
  | .comp t own s test elt => fun env h => (src s env h).bind fun xs h => (comps t (ev test) (ev elt) (wipe env own) xs [] h).bind fun ys h => .ok (.lst ys) h
  | .lenO i => fun env h => (match env[i]? with
    | some (some (.oL xs)) => .ok (.int xs.length) h
    | some (some (.oD ks _)) => .ok (.int ks.length) h
    | _ => .bad)
  | .idxO i a => fun env h => (match env[i]? with
    | some (some (.oL xs)) => (ev a env h).bind fun y h => (match y with
      | .int j => (match atX xs j with
        | some v => .ok v h
        | none => .bad)
      | _ => .bad)
    | _ => .bad)
  | .inO a i neg => fun env h => (match env[i]? with
    | some (some (.oD ks _)) => (ev a env h).bind fun y h => (match keyOf y with
      | some k => okB (if neg then !decide (k ∈ ks) else decide (k ∈ ks)) h
      | none => .bad)
    | _ => .bad)
  | .inG a g => fun env h => (ev a env h).bind fun y h => (match y with
    | .str s => okB (decide (K0.s s ∈ (C.dct g).1)) h
    | _ => .bad)
  | .idxG g a => fun env h => (ev a env h).bind fun y h => (match y with
    | .str s => (match dget (C.dct g).1 (C.dct g).2 (K0.s s) with
      | some v => .ok v h
      | none => .bad)
    | _ => .bad)
def evb : Bd → Ev.Env → Hh → Res (Option Int)
  | .no => fun _ h => .ok none h
  | .so e => fun env h => (ev e env h).bind fun x h => (match x with
    | .int i => .ok (some i) h
    | _ => .bad)
def evs : Es → MN
  | .nil => fun _ h => .ok [] h
  | .cons e es => fun env h => (ev e env h).bind fun x h => (evs es env h).bind fun xs h => .ok (x :: xs) h
def src : Sr → MN
  | .of e => fun env h => (ev e env h).bind fun x h => (match seqOf x with
    | some xs => .ok xs h
    | none => .bad)
  | .range1 e => fun env h => (ev e env h).bind fun x h => (match x with
    | .int j => if small62 j then .ok (rangeF 0 j.toNat) h else .bad
    | _ => .bad)
  | .range2 a b => fun env h => (ev a env h).bind fun x h => (ev b env h).bind fun y h => (match x, y with
    | .int i, .int j => if small62 i && small62 j then .ok (rangeF i (j - i).toNat) h else .bad
    | _, _ => .bad)
  | .enum e => fun env h => (ev e env h).bind fun x h => (match x with
    | .lst xs => .ok (enumF 0 xs) h
    | _ => .bad)
  | .enumT e => fun env h => (ev e env h).bind fun x h => (match x with
    | .tup xs => .ok (enumF 0 xs) h
    | _ => .bad)
  | .zip a b => fun env h => (ev a env h).bind fun x h => (ev b env h).bind fun y h => (match x, y with
    | .lst xs, .lst ys => .ok (pair2 xs ys) h
    | _, _ => .bad)
  | .keys i => fun env h => (match valAt env i with
    | some (.dct ks _) => .ok (ks.map kEV) h
    | _ => .bad)
  | .keysO i => fun env h => (match env[i]? with
    | some (some (.oD ks _)) => .ok (ks.map kEV) h
    | _ => .bad)
end

/-! ### statements -/
def SRes.thn (r : SRes) (f : MS) : SRes := match r with
  | .nx env h => f env h
  | r => r
def Res.s (r : Res EV) (f : EV → Hh → SRes) : SRes := match r with
  | .ok v h => f v h
  | .exc x h => .exc x h
  | .bad => .bad
@[simp] theorem SRes.thn_nx (env : Env) (h : Hh) (f : MS) : (SRes.nx env h).thn f = f env h := (rfl)
@[simp] theorem SRes.thn_rt (v : EV) (h : Hh) (f : MS) : (SRes.rt v h).thn f = .rt v h := (rfl)
@[simp] theorem SRes.thn_exc (x : Nat) (h : Hh) (f : MS) : (SRes.exc x h).thn f = .exc x h := (rfl)
@[simp] theorem SRes.thn_bad (f : MS) : SRes.bad.thn f = .bad := (rfl)
@[simp] theorem Res.s_ok (v : EV) (h : Hh) (f : EV → Hh → SRes) : (Res.ok v h).s f = f v h := (rfl)
@[simp] theorem Res.s_exc (x : Nat) (h : Hh) (f : EV → Hh → SRes) : (Res.exc x h).s f = .exc x h := (rfl)
@[simp] theorem Res.s_bad (f : EV → Hh → SRes) : Res.bad.s f = .bad := (rfl)
/-- the turns of a for -/
def turns (t : T) (body : MS) : List EV → MS
  | [], env, h => .nx env h
  | v :: r, env, h => (match t.put v env with
    | some env1 => (body env1 h).thn (turns t body r)
    | none => .bad)
/-- a new list or dict, into its slot -/
def ownV : EV → Option SV
  | .lst xs => some (.oL xs)
  | .dct ks vs => some (.oD ks vs)
  | _ => none
/-- what is stored: a value, or the list or dict that one goes on building -/
def ownR (o : Bool) (v : EV) : Option SV := match o with
  | true => ownV v
  | false => some (.val v)
mutual
def exS : St → MS
  | .asg t e => fun env h => (ev C e env h).s fun v h => (match t.put v env with
    | some env1 => .nx env1 h
    | none => .bad)
  | .own i e => fun env h => (ev C e env h).s fun v h => (match ownR true v with
    | some w => .nx (env.set i (some w)) h
    | none => .bad)
  | .par2 i j o1 o2 a b => fun env h => (ev C a env h).s fun x h => (match ownR o1 x with
    | some w1 => (ev C b env h).s fun y h => (match ownR o2 y with
      | some w2 => .nx ((env.set i (some w1)).set j (some w2)) h
      | none => .bad)
    | none => .bad)
  | .setR o k v => fun env h => (ev C v env h).s fun v h => (ev C o env h).s fun o h => (ev C k env h).s fun k h => (match setAt o k v h with
    | some h1 => .nx env h1
    | none => .bad)
  | .setO i k v => fun env h => (ev C v env h).s fun v h => (match env[i]? with
    | some (some (.oD ks vs)) => (ev C k env h).s fun k h => (match keyOf k with
      | some q => if ks.length < L then .nx (env.set i (some (.oD (dputK ks q) (dputV ks vs q v)))) h else .bad
      | none => .bad)
    | _ => .bad)
  | .app i e => fun env h => (match env[i]? with
    | some (some (.oL xs)) => (ev C e env h).s fun v h => if xs.length < L then .nx (env.set i (some (.oL (xs ++ [v])))) h else .bad
    | _ => .bad)
  | .upd i e => fun env h => (match env[i]? with
    | some (some (.oD ks vs)) => (ev C e env h).s fun v h => (match v with
      | .dct ks' vs' => if ks.length + ks'.length ≤ L then .nx (env.set i (some (.oD (dmerge ks' vs' ks vs).1 (dmerge ks' vs' ks vs).2))) h else .bad
      | _ => .bad)
    | _ => .bad)
  | .ex e => fun env h => (ev C e env h).s fun _ h => .nx env h
  | .ret e => fun env h => (ev C e env h).s fun v h => .rt v h
  | .retOwn i => fun env h => (match env[i]? with
    | some (some (.oL xs)) => .rt (.lst xs) h
    | some (some (.oD ks vs)) => .rt (.dct ks vs) h
    | _ => .bad)
  | .ite t a b => fun env h => (ev C t env h).s fun v h => (match v with
    | .bl true => exSs a env h
    | .bl false => exSs b env h
    | _ => .bad)
  | .for_ t s b => fun env h => (match src C s env h with
    | .ok xs h => turns t (exSs b) xs env h
    | .exc x h => .exc x h
    | .bad => .bad)
  | .raise_ c => fun _ h => .exc c h
  | .pass_ => fun env h => .nx env h
  | .freeze i => fun env h => (match env[i]? with
    | some (some (.oL xs)) => .nx (env.set i (some (.val (.lst xs)))) h
    | some (some (.oD ks vs)) => .nx (env.set i (some (.val (.dct ks vs)))) h
    | _ => .bad)
  | .share i => fun env h => (match env[i]? with
    | some (some (.oL xs)) => .nx (env.set i (some (.val (.ref h.length)))) (h ++ [xs])
    | _ => .bad)
  | .spec n => C.spec n
def exSs : Sts → MS
  | .nil => fun env h => .nx env h
  | .cons s r => fun env h => (exS s env h).thn (exSs r)
end

/-! ### defs -/
/-- a def: how many parameters, how many slots, its body; does it return what it built -/
structure Df where
  np : Nat
  ns : Nat
  body : Sts
  fresh : Bool
def startE (ns : Nat) (xs : List EV) : Env := (xs.map fun v => some (SV.val v)) ++ List.replicate (ns - xs.length) none
def runDf (d : Df) (xs : List EV) (h : Hh) : Res EV :=
  if xs.length = d.np then (match exSs C d.body (startE d.ns xs) h with
    | .nx _ h => if d.fresh then .bad else .ok .non h
    | .rt v h => .ok v h
    | .exc c h => .exc c h
    | .bad => .bad) else .bad
end Ev
end
section
set_option Elab.async false
set_option linter.all false
set_option maxRecDepth 100000
/-! EvR: how the evaluator's values and states lie in the heap. -/
namespace EvS
open PySem PySem.Spec PyProof.Rows L2 Ev

def toS (s : S) : Str := ⟨⟨s⟩⟩
def toK : K0 → Key
  | .i i => .inl i
  | .s s => .inr (toS s)
theorem toS_inj {a b : S} (h : toS a = toS b) : a = b := by
  unfold toS at h
  injection h with h
  injection h
theorem toK_inj {a b : K0} (h : toK a = toK b) : a = b := by
  cases a <;> cases b <;> simp only [toK] at h
  · injection h with h; rw [h]
  · cases h
  · cases h
  · injection h with h; rw [toS_inj h]
theorem toS_len (s : S) : (toS s).length = s.length := rfl
theorem toS_app (a b : S) : toS a ++ toS b = toS (a ++ b) := by
  show (⟨(toS a).cps ++ (toS b).cps⟩ : Str) = _
  unfold toS
  simp
theorem toS_list (s : S) : (toS s).cps.toList = s := rfl
theorem L_eq : sizeLine = Ev.L := by rw [sizeLine_eq]; rfl

/-- what texts are told of -/
def txt (s : S) : Bool := decide (s.length ≤ Ev.L) && s.all fun c => decide (c < 1114112)
def kOk : K0 → Bool
  | .i _ => true
  | .s t => txt t
/-- a dict's keys -/
def KOk (ks : List K0) : Prop := ks.Nodup ∧ ∀ k ∈ ks, kOk k = true
mutual
/-- a value as plain data -/
def pd : EV → PyData
  | .non => .none
  | .bl b => .bool b
  | .int i => .int i
  | .str s => .str (toS s)
  | .tup xs => .tuple (pds xs)
  | .lst xs => .list (pds xs)
  | _ => .none
def pds : List EV → List PyData
  | [] => []
  | x :: xs => pd x :: pds xs
end
/-- repr's text -/
def repT (v : EV) : Str := (pd v).shown
/-- addresses that no list or dict of a value has; and: no dict is walked -/
structure Nz where
  a : Addr → Prop
  z : Addr → Prop
def Nle (N' N : Nz) (H : Hp) : Prop := (∀ b, N'.a b → N.a b ∨ H b = none) ∧ ∀ p, N.z p → N'.z p
theorem Nle.rfl {N : Nz} {H : Hp} : Nle N N H := ⟨fun _ q => .inl q, fun _ q => q⟩
/-- a dict that is read; where it is not walked it may be written -/
def DR (z : Addr → Prop) (H : Hp) (p : Addr) (kvs : List (Key × V)) : Prop := (¬ z p → H p = some (.dK kvs)) ∧ Rd H p (.dK kvs)
theorem DR.of {z : Addr → Prop} {H : Hp} {p : Addr} {kvs : List (Key × V)} (h : H p = some (.dK kvs)) : DR z H p kvs := ⟨fun _ => h, .inl h⟩
section
variable (K : PySem.W.Frag) (N : Nz) (ρ : List Addr) (H : Hp)
mutual
/-- a value and how it lies; N, ρ: addresses that no list or dict of it has -/
def RV : EV → V → Prop
  | .non, x => x = .non
  | .bl b, x => x = .bl b
  | .int i, x => x = .int i
  | .str s, x => x = .str (toS s) ∧ txt s = true
  | .tup xs, x => ∃ p ys, x = .ref p ∧ SqT K H p ys ∧ RVs xs ys
  | .lst xs, x => ∃ p ys, x = .ref p ∧ H p = some (.lst ys) ∧ (¬ N.a p ∧ p ∉ ρ) ∧ RVs xs ys
  | .dct ks vs, x => ∃ p kvs, x = .ref p ∧ DR N.z H p kvs ∧ (¬ N.a p ∧ p ∉ ρ) ∧ kvs.map (·.1) = ks.map toK ∧ KOk ks ∧ RVs vs (kvs.map (·.2))
  | .fro xs, x => ∃ p ys, x = .ref p ∧ ((Rd H p (.lst ys) ∧ ¬ N.a p ∧ p ∉ ρ) ∨ SqL K (fun _ => none) p ys) ∧ RVs xs ys
  | .ref n, x => ∃ p, x = .ref p ∧ ρ[n]? = some p
  | .rep v, x => x = .str (repT v)
def RVs : List EV → List V → Prop
  | [], ys => ys = []
  | v :: vs, ys => ∃ y r, ys = y :: r ∧ RV v y ∧ RVs vs r
end
/-- the shared lists -/
structure RH (h : Hh) : Prop where
  len : h.length = ρ.length
  nd : ρ.Nodup
  obj : ∀ (n : Nat) (a : Addr) (xs : List EV), ρ[n]? = some a → h[n]? = some xs → ∃ ys, H a = some (.lst ys) ∧ RVs K N ρ H xs ys
  trk : ∀ a, N.a a → ∃ o, H a = some o
end
/-- a table of code objects is kept where its own objects are -/
theorem tabS_of {H H' : Hp} {P : Addr} {q : Str} (t : LamX.TabS H P q) (e : ∀ b o, H b = some o → ((∃ ps, o = .tbl ps) ∨ ∃ c q, o = LamX.CodeO c q) → H' b = some o) : LamX.TabS H' P q := by
  obtain ⟨ps, h1, h2, h3⟩ := t
  refine ⟨ps, e P _ h1 (.inl ⟨ps, rfl⟩), h2, fun pos cv hc => ?_⟩
  obtain ⟨c, rfl, h4⟩ := h3 pos cv hc
  exact ⟨c, rfl, e c _ h4 (.inr ⟨c, q, rfl⟩)⟩
/-- the name of a lambda in a law -/
def lamQ : Str := (("law" : Str) ++ ".<locals>.") ++ "<lambda>"
/-- the tables of code objects are known -/
def Tbs (TP : List Addr) (H : Hp) : Prop := ∀ p ∈ TP, LamX.TabS H p lamQ
def NotTbl : HO → Prop
  | .tbl _ => False
  | _ => True
/-- what stands still: all but the shared lists -/
structure Ext (K : PySem.W.Frag) (ρ : List Addr) (H : Hp) (ρ' : List Addr) (H' : Hp) : Prop where
  pre : ∃ more, ρ' = ρ ++ more
  fresh : ∀ a, a ∈ ρ' → a ∈ ρ ∨ H a = none
  keep : ∀ a o, H a = some o → a ∉ ρ → NotTbl o → H' a = some o
  tbl : ∀ a ps, H a = some (.tbl ps) → ∃ more, H' a = some (.tbl (ps ++ more))
  tups : ∀ p ys, SqT K H p ys → SqT K H' p ys
  shr : ∀ a ∈ ρ, ∃ o, H' a = some o
  tabs : ∀ P, LamX.TabS H P lamQ → LamX.TabS H' P lamQ
section
variable {K : PySem.W.Frag} {N N' : Nz} {ρ ρ1 ρ2 : List Addr} {H H1 H2 : Hp} {h : Hh}
theorem RVs.length : ∀ {vs : List EV} {ys : List V}, RVs K N ρ H vs ys → vs.length = ys.length
  | [], _, r => by rw [show _ = [] from r]; rfl
  | v :: vs, _, r => by
    obtain ⟨y, q, rfl, _, h2⟩ := r
    rw [List.length_cons, List.length_cons, RVs.length h2]
theorem RVs.get : ∀ {vs : List EV} {ys : List V} {i : Nat} {v : EV}, RVs K N ρ H vs ys → vs[i]? = some v → ∃ y, ys[i]? = some y ∧ RV K N ρ H v y
  | [], _, _, _, _, e => by simp at e
  | v :: vs, _, 0, w, r, e => by
    obtain ⟨y, q, rfl, h1, _⟩ := r
    simp at e; subst e
    exact ⟨y, rfl, h1⟩
  | v :: vs, _, i + 1, w, r, e => by
    obtain ⟨y, q, rfl, _, h2⟩ := r
    obtain ⟨z, e1, e2⟩ := RVs.get (i := i) h2 (by simpa using e)
    exact ⟨z, by simpa using e1, e2⟩
theorem RVs.append : ∀ {vs ws : List EV} {ys zs : List V}, RVs K N ρ H vs ys → RVs K N ρ H ws zs → RVs K N ρ H (vs ++ ws) (ys ++ zs)
  | [], _, _, _, r, s => by rw [show _ = [] from r]; exact s
  | v :: vs, ws, _, zs, r, s => by
    obtain ⟨y, q, rfl, h1, h2⟩ := r
    exact ⟨y, q ++ zs, rfl, h1, RVs.append h2 s⟩
theorem RVs.one {v : EV} {y : V} (r : RV K N ρ H v y) : RVs K N ρ H [v] [y] := ⟨y, [], rfl, r, rfl⟩
theorem RVs.take : ∀ {vs : List EV} {ys : List V} (n : Nat), RVs K N ρ H vs ys → RVs K N ρ H (vs.take n) (ys.take n)
  | _, _, 0, _ => by simp [RVs]
  | [], _, n + 1, r => by rw [show _ = [] from r]; simp [RVs]
  | v :: vs, _, n + 1, r => by
    obtain ⟨y, q, rfl, h1, h2⟩ := r
    exact ⟨y, q.take n, rfl, h1, RVs.take n h2⟩
theorem RVs.drop : ∀ {vs : List EV} {ys : List V} (n : Nat), RVs K N ρ H vs ys → RVs K N ρ H (vs.drop n) (ys.drop n)
  | _, _, 0, r => r
  | [], _, n + 1, r => by rw [show _ = [] from r]; simp [RVs]
  | v :: vs, _, n + 1, r => by
    obtain ⟨y, q, rfl, _, h2⟩ := r
    exact RVs.drop n h2
theorem RVs.set : ∀ {vs : List EV} {ys : List V} {v : EV} {y : V} (i : Nat), RVs K N ρ H vs ys → RV K N ρ H v y → RVs K N ρ H (vs.set i v) (ys.set i y)
  | [], _, _, _, _, r, _ => by rw [show _ = [] from r]; simp [RVs]
  | w :: vs, _, v, y, 0, r, s => by
    obtain ⟨z, q, rfl, _, h2⟩ := r
    exact ⟨y, q, rfl, s, h2⟩
  | w :: vs, _, v, y, i + 1, r, s => by
    obtain ⟨z, q, rfl, h1, h2⟩ := r
    exact ⟨z, q.set i y, rfl, h1, RVs.set i h2 s⟩
/-- every object of a value is tracked, or one of the module -/
theorem Rd.some {p : Addr} {u : HO} (r : Rd H p u) : ∃ o, H p = some o := by
  rcases r with r | ⟨o, r⟩
  · exact ⟨_, r⟩
  · exact ⟨_, r⟩
theorem Rd.keep {p : Addr} {u : HO} (r : Rd H p u) (e : Ext K ρ H ρ1 H1) (n : p ∉ ρ) (nt : NotTbl u) : Rd H1 p u := by
  rcases r with r | ⟨o, r⟩
  · exact .inl (e.keep _ _ r n nt)
  · exact .inr ⟨o, e.keep _ _ r n trivial⟩
theorem Ext.avoid (e : Ext K ρ H ρ1 H1) {p : Addr} {o : HO} (r : H p = some o) (n : p ∉ ρ) : p ∉ ρ1 := fun m => by
  rcases e.fresh p m with q | q
  · exact n q
  · rw [r] at q; cases q
mutual
/-- values stay -/
theorem RV.mono (e : Ext K ρ H ρ1 H1) (hN : Nle N' N H) : ∀ {v : EV} {x : V}, RV K N ρ H v x → RV K N' ρ1 H1 v x
  | .non, _, r => r
  | .bl _, _, r => r
  | .int _, _, r => r
  | .str _, _, r => r
  | .tup xs, _, r => by
    obtain ⟨p, ys, rfl, h1, h2⟩ := r
    exact ⟨p, ys, rfl, e.tups p ys h1, RVs.mono e hN h2⟩
  | .lst xs, _, r => by
    obtain ⟨p, ys, rfl, h1, ⟨n1, n2⟩, h2⟩ := r
    refine ⟨p, ys, rfl, e.keep _ _ h1 n2 trivial, ⟨fun q => ?_, e.avoid h1 n2⟩, RVs.mono e hN h2⟩
    rcases hN.1 p q with z | z
    · exact n1 z
    · rw [h1] at z; cases z
  | .dct ks vs, _, r => by
    obtain ⟨p, kvs, rfl, h1, ⟨n1, n2⟩, hk, hd, h2⟩ := r
    obtain ⟨o, ho⟩ := Rd.some h1.2
    refine ⟨p, kvs, rfl, ⟨fun z => e.keep _ _ (h1.1 fun q => z (hN.2 _ q)) n2 trivial, Rd.keep h1.2 e n2 trivial⟩, ⟨fun q => ?_, e.avoid ho n2⟩, hk, hd, RVs.mono e hN h2⟩
    rcases hN.1 p q with z | z
    · exact n1 z
    · rw [ho] at z; cases z
  | .fro xs, _, r => by
    obtain ⟨p, ys, rfl, h1, h2⟩ := r
    refine ⟨p, ys, rfl, ?_, RVs.mono e hN h2⟩
    rcases h1 with ⟨h1, n1, n2⟩ | h1
    · obtain ⟨o, ho⟩ := Rd.some h1
      refine .inl ⟨Rd.keep h1 e n2 trivial, fun q => ?_, e.avoid ho n2⟩
      rcases hN.1 p q with z | z
      · exact n1 z
      · rw [ho] at z; cases z
    · exact .inr h1
  | .rep v, _, r => r
  | .ref n, _, r => by
    obtain ⟨p, rfl, h1⟩ := r
    obtain ⟨more, rfl⟩ := e.pre
    refine ⟨p, rfl, ?_⟩
    rw [List.getElem?_append_left (List.getElem?_eq_some_iff.mp h1).1]
    exact h1
theorem RVs.mono (e : Ext K ρ H ρ1 H1) (hN : Nle N' N H) : ∀ {vs : List EV} {ys : List V}, RVs K N ρ H vs ys → RVs K N' ρ1 H1 vs ys
  | [], _, r => r
  | v :: vs, _, r => by
    obtain ⟨y, q, rfl, h1, h2⟩ := r
    exact ⟨y, q, rfl, RV.mono e hN h1, RVs.mono e hN h2⟩
end
/-! ### what stands still -/
theorem RH.shr (r : RH K N ρ H h) : ∀ a ∈ ρ, ∃ ys, H a = some (.lst ys) := fun a m => by
  obtain ⟨n, hn, e⟩ := List.mem_iff_getElem.mp m
  have hl : n < h.length := by rw [r.len]; exact hn
  obtain ⟨ys, h1, _⟩ := r.obj n a h[n] (by rw [← e]; simp) (by simp)
  exact ⟨ys, h1⟩
theorem Ext.refl (hs : ∀ a ∈ ρ, ∃ o, H a = some o) : Ext K ρ H ρ H := ⟨⟨[], by simp⟩, fun a q => .inl q, fun a o q _ _ => q, fun a ps q => ⟨#[], by simpa using q⟩, fun p ys q => q, hs, fun _ t => t⟩
theorem RH.refl (r : RH K N ρ H h) : Ext K ρ H ρ H := .refl fun a m => let ⟨_, q⟩ := r.shr a m; ⟨_, q⟩
theorem RV.sub (rh : RH K N ρ H h) (hN : Nle N' N H) {v : EV} {x : V} (r : RV K N ρ H v x) : RV K N' ρ H v x := RV.mono rh.refl hN r
theorem Ext.trk (a : Ext K ρ H ρ1 H1) {b : Addr} {o : HO} (q : H b = some o) : ∃ u, H1 b = some u := by
  by_cases m : b ∈ ρ
  · exact a.shr b m
  · by_cases t : NotTbl o
    · exact ⟨o, a.keep b o q m t⟩
    · cases o with
      | tbl ps =>
        obtain ⟨more, z⟩ := a.tbl b ps q
        exact ⟨_, z⟩
      | _ => exact absurd trivial t
theorem Ext.trans (a : Ext K ρ H ρ1 H1) (b : Ext K ρ1 H1 ρ2 H2) : Ext K ρ H ρ2 H2 where
  pre := by
    obtain ⟨m1, e1⟩ := a.pre
    obtain ⟨m2, e2⟩ := b.pre
    exact ⟨m1 ++ m2, by rw [e2, e1, List.append_assoc]⟩
  fresh := fun c m => by
    rcases b.fresh c m with q | q
    · exact a.fresh c q
    · refine .inr ?_
      cases z : H c with
      | none => rfl
      | some o =>
        obtain ⟨u, hu⟩ := a.trk z
        rw [q] at hu; cases hu
  keep := fun c o q n t => b.keep c o (a.keep c o q n t) (a.avoid q n) t
  tbl := fun c ps q => by
    obtain ⟨m1, e1⟩ := a.tbl c ps q
    obtain ⟨m2, e2⟩ := b.tbl c _ e1
    exact ⟨m1 ++ m2, by rw [e2, Array.append_assoc]⟩
  tups := fun p ys q => b.tups p ys (a.tups p ys q)
  shr := fun c m => by
    obtain ⟨o, q⟩ := a.shr c m
    exact b.trk q
  tabs := fun P t => b.tabs P (a.tabs P t)
theorem RH.mono {h1 : Hh} (r : RH K N ρ H h) (e : Ext K ρ H ρ1 H1) (r1 : RH K N ρ1 H1 h1) : RH K N ρ1 H1 h1 := r1
/-- a new object -/
theorem sqT_new {K : PySem.W.Frag} {H : Hp} {p q : Addr} {o : HO} {ys : List V} (hp : H p = none) (h : SqT K H q ys) : SqT K (upd H p o) q ys := by
  rcases h with (h | ⟨ob, h⟩) | h
  · exact .inl (.inl (by rw [upd_ne (ne_of_none h hp)]; exact h))
  · exact .inl (.inr ⟨ob, by rw [upd_ne (ne_of_none h hp)]; exact h⟩)
  · exact .inr h
theorem Ext.new {p : Addr} {o : HO} (hs : ∀ a ∈ ρ, ∃ o, H a = some o) (hp : H p = none) : Ext K ρ H ρ (upd H p o) where
  pre := ⟨[], by simp⟩
  fresh := fun a q => .inl q
  keep := fun a u q _ _ => by rw [upd_ne (ne_of_none q hp)]; exact q
  tbl := fun a ps q => ⟨#[], by rw [upd_ne (ne_of_none q hp)]; simpa using q⟩
  tups := fun q ys h => sqT_new hp h
  shr := fun a m => by
    obtain ⟨u, q⟩ := hs a m
    exact ⟨u, by rw [upd_ne (ne_of_none q hp)]; exact q⟩
  tabs := fun P t => tabS_of t fun b o z _ => by rw [upd_ne (ne_of_none z hp)]; exact z
theorem RH.new {p : Addr} {o : HO} (r : RH K N ρ H h) (hp : H p = none) : RH K N ρ (upd H p o) h where
  len := r.len
  nd := r.nd
  obj := fun n a xs e1 e2 => by
    obtain ⟨ys, h1, h2⟩ := r.obj n a xs e1 e2
    exact ⟨ys, by rw [upd_ne (ne_of_none h1 hp)]; exact h1, RVs.mono (Ext.new (fun a m => let ⟨_, q⟩ := r.shr a m; ⟨_, q⟩) hp) Nle.rfl h2⟩
  trk := fun a q => by
    obtain ⟨u, z⟩ := r.trk a q
    exact ⟨u, by rw [upd_ne (ne_of_none z hp)]; exact z⟩
theorem RH.newX {p : Addr} {o : HO} (r : RH K N ρ H h) (hp : H p = none) : Ext K ρ H ρ (upd H p o) := Ext.new (fun a m => let ⟨_, q⟩ := r.shr a m; ⟨_, q⟩) hp
theorem RH.nin {p : Addr} (r : RH K N ρ H h) (hp : H p = none) : ¬ N.a p ∧ p ∉ ρ := by
  refine ⟨fun q => ?_, fun q => ?_⟩
  · obtain ⟨o, z⟩ := r.trk p q
    rw [hp] at z; cases z
  · obtain ⟨o, z⟩ := r.shr p q
    rw [hp] at z; cases z
/-- a new list, a new tuple, a new dict as a value -/
theorem RV.newL {p : Addr} {xs : List EV} {ys : List V} (r : RH K N ρ H h) (hp : H p = none) (q : RVs K N ρ H xs ys) : RV K N ρ (upd H p (.lst ys)) (.lst xs) (.ref p) :=
  ⟨p, ys, rfl, upd_same, r.nin hp, RVs.mono (r.newX hp) Nle.rfl q⟩
theorem RV.newT {p : Addr} {xs : List EV} {ys : List V} (r : RH K N ρ H h) (hp : H p = none) (q : RVs K N ρ H xs ys) : RV K N ρ (upd H p (.tup ys)) (.tup xs) (.ref p) :=
  ⟨p, ys, rfl, .inl (.inl upd_same), RVs.mono (r.newX hp) Nle.rfl q⟩
theorem RV.newD {p : Addr} {ks : List K0} {vs : List EV} {kvs : List (Key × V)} (r : RH K N ρ H h) (hp : H p = none) (hk : kvs.map (·.1) = ks.map toK) (nd : KOk ks) (q : RVs K N ρ H vs (kvs.map (·.2))) :
    RV K N ρ (upd H p (.dK kvs)) (.dct ks vs) (.ref p) :=
  ⟨p, kvs, rfl, .of upd_same, r.nin hp, hk, nd, RVs.mono (r.newX hp) Nle.rfl q⟩
end

/-! ### outcomes -/
section
variable (K : PySem.W.Frag) (W : Nat → Hp → Prop) (N : Nz)
/-- what is wanted behind a result -/
def og {α : Type} (ρ : List Addr) (H : Hp) (r : Res α) (G : α → Hh → List Addr → Hp → Prop) : Prop :=
  match r with
  | .ok a h' => ∀ ρ' H', Ext K ρ H ρ' H' → RH K N ρ' H' h' → G a h' ρ' H'
  | .exc c h' => ∀ ρ' H', Ext K ρ H ρ' H' → RH K N ρ' H' h' → W c H'
  | .bad => False
end
section
variable {K : PySem.W.Frag} {W : Nat → Hp → Prop} {N : Nz} {ρ ρ1 : List Addr} {H H1 : Hp} {h : Hh} {α β : Type}
theorem og_mono {r : Res α} {G G' : α → Hh → List Addr → Hp → Prop} (q : og K W N ρ H r G) (i : ∀ a h' ρ' H', r = .ok a h' → Ext K ρ H ρ' H' → RH K N ρ' H' h' → G a h' ρ' H' → G' a h' ρ' H') : og K W N ρ H r G' := by
  cases r with
  | ok a h' => exact fun ρ' H' e r => i a h' ρ' H' rfl e r (q ρ' H' e r)
  | exc c h' => exact q
  | bad => exact q
theorem og_ext {r : Res α} {G : α → Hh → List Addr → Hp → Prop} (q : og K W N ρ H r G) (e : Ext K ρ H ρ1 H1) : og K W N ρ1 H1 r G := by
  cases r with
  | ok a h' => exact fun ρ' H' e' r => q ρ' H' (e.trans e') r
  | exc c h' => exact fun ρ' H' e' r => q ρ' H' (e.trans e') r
  | bad => exact q
theorem og_bind {r : Res α} {f : α → Hh → Res β} {G : β → Hh → List Addr → Hp → Prop} (q : og K W N ρ H (r.bind f) G) :
    og K W N ρ H r (fun a h' ρ' H' => og K W N ρ' H' (f a h') G) := by
  cases r with
  | ok a h' => exact fun ρ' H' e r => og_ext q e
  | exc c h' => exact q
  | bad => exact q
theorem og_here {a : α} {G : α → Hh → List Addr → Hp → Prop} (q : og K W N ρ H (.ok a h) G) (r : RH K N ρ H h) : G a h ρ H := q ρ H r.refl r
end
end EvS
end
section
set_option Elab.async false
set_option linter.all false
set_option maxRecDepth 100000
set_option maxHeartbeats 1000000
/-! EvJ: operations on values, as the evaluator tells them. -/
namespace EvS
open PySem PySem.Spec PyProof.Rows L2 Ev

section
variable {K : PySem.W.Frag} {W : Nat → Hp → Prop} {N : Nz} {ρ : List Addr} {H : Hp} {h : Hh}
/-- what is wanted of a value -/
abbrev gv (K : PySem.W.Frag) (N : Nz) (Q : VK) : EV → Hh → List Addr → Hp → Prop := fun v _ ρ' H' => ∀ x, RV K N ρ' H' v x → Q x H'
theorem og_val {v : EV} {Q : VK} (q : og K W N ρ H (.ok v h) (gv K N Q)) (rh : RH K N ρ H h) {x : V} (r : RV K N ρ H v x) : Q x H := og_here q rh x r
/-- a value that is laid anew -/
theorem og_new {v : EV} {Q : VK} (q : og K W N ρ H (.ok v h) (gv K N Q)) (rh : RH K N ρ H h) {p : Addr} {o : HO} (hp : H p = none) {x : V} (r : RV K N ρ (upd H p o) v x) : Q x (upd H p o) :=
  q ρ _ (rh.newX hp) (rh.new hp) x r
end

/-- an operation on two values -/
def r2 (K : PySem.W.Frag) (W : Nat → Hp → Prop) (f : Op2) : R2 := fun x y H Q => ∃ N ρ h v w, RH K N ρ H h ∧ RV K N ρ H v x ∧ RV K N ρ H w y ∧ og K W N ρ H (f v w h) (gv K N Q)

theorem txt_len {s : S} (t : txt s = true) : s.length ≤ Ev.L := by
  unfold txt at t
  rw [Bool.and_eq_true] at t
  exact of_decide_eq_true t.1
theorem txt_all {s : S} (t : txt s = true) : (s.all fun c => decide (c < 1114112)) = true := by
  unfold txt at t
  rw [Bool.and_eq_true] at t
  exact t.2
theorem txt_mk {s : S} (a : s.length ≤ Ev.L) (b : (s.all fun c => decide (c < 1114112)) = true) : txt s = true := by
  unfold txt
  rw [Bool.and_eq_true]
  exact ⟨decide_eq_true a, b⟩
theorem txt_app {a b : S} (ta : txt a = true) (tb : txt b = true) (hl : a.length + b.length ≤ Ev.L) : txt (a ++ b) = true := by
  refine txt_mk (by rw [List.length_append]; exact hl) ?_
  rw [List.all_append, txt_all ta, txt_all tb]
  rfl
theorem txt_one {s : S} {c : Nat} (t : txt s = true) (m : c ∈ s) : txt [c] = true := by
  refine txt_mk (by show 1 ≤ Ev.L; decide) ?_
  have := List.all_eq_true.mp (txt_all t) c m
  simpa using this

section
variable {X : Cx} {W : Nat → Hp → Prop}
theorem r2_add : OpR X (binaryOp .Add) (r2 X.K W opAdd) := by
  intro pins s σ H x y vx vy Q I rx ry ⟨N, ρ, h, v, w, rh, rv, rw', q⟩
  unfold opAdd at q
  split at q
  · cases (show x = _ from rv); cases (show y = _ from rw')
    exact op_add pins s σ H _ _ vx vy Q I rx ry ⟨_, _, rfl, rfl, og_val q rh rfl⟩
  · obtain ⟨rfl, ta⟩ := rv
    obtain ⟨rfl, tb⟩ := rw'
    split at q
    · rename_i hl
      exact op_add_str pins s σ H _ _ vx vy Q I rx ry ⟨_, _, rfl, rfl, by rw [toS_len, toS_len, L_eq]; exact hl, og_val q rh ⟨congrArg V.str (toS_app _ _), txt_app ta tb hl⟩⟩
    · exact (show False from q).elim
  · rename_i a b
    obtain ⟨p, ys, rfl, hp, ra⟩ := rv
    obtain ⟨p', zs, rfl, hp', rb⟩ := rw'
    split at q
    · rename_i hl
      have la := ra.length
      have lb := rb.length
      refine op_catA pins s σ H _ _ vx vy Q I rx ry ⟨p, p', ys, zs, rfl, rfl, hp, hp', by rw [L_eq]; omega, fun e => ?_, fun e e' => ?_, fun _ _ d hd => ?_⟩
      · subst e
        have ea : a = [] := List.length_eq_zero_iff.mp (by simpa using la)
        subst ea
        exact og_val q rh ⟨p', zs, rfl, hp', by simpa using rb⟩
      · subst e'
        have eb : b = [] := List.length_eq_zero_iff.mp (by simpa using lb)
        subst eb
        exact og_val q rh ⟨p, ys, rfl, hp, by simpa using ra⟩
      · exact og_new q rh hd (RV.newT rh hd (ra.append rb))
    · exact (show False from q).elim
  · rename_i a b
    obtain ⟨p, ys, rfl, hp, n1, ra⟩ := rv
    obtain ⟨p', zs, rfl, hp', n2, rb⟩ := rw'
    split at q
    · rename_i hl
      have la := ra.length
      have lb := rb.length
      exact op_cat pins s σ H _ _ vx vy Q I rx ry ⟨p, p', ys, zs, rfl, rfl, hp, hp', by rw [L_eq]; omega, fun d hd => og_new q rh hd (RV.newL rh hd (ra.append rb))⟩
    · exact (show False from q).elim
  · exact (show False from q).elim
theorem r2_sub : OpR X (binaryOp .Sub) (r2 X.K W opSub) := by
  intro pins s σ H x y vx vy Q I rx ry ⟨N, ρ, h, v, w, rh, rv, rw', q⟩
  unfold opSub at q
  split at q
  · cases (show x = _ from rv); cases (show y = _ from rw')
    exact op_sub pins s σ H _ _ vx vy Q I rx ry ⟨_, _, rfl, rfl, og_val q rh rfl⟩
  · exact (show False from q).elim
theorem small_iff {i : Int} (h : small i = true) : -(2 ^ 64) < i ∧ i < 2 ^ 64 := by
  unfold small at h
  rw [Bool.and_eq_true] at h
  have h1 := of_decide_eq_true h.1
  have h2 := of_decide_eq_true h.2
  constructor <;> omega
theorem r2_mul : OpR X (binaryOp .Mult) (r2 X.K W opMul) := by
  intro pins s σ H x y vx vy Q I rx ry ⟨N, ρ, h, v, w, rh, rv, rw', q⟩
  unfold opMul at q
  split at q
  · cases (show x = _ from rv); cases (show y = _ from rw')
    split at q
    · rename_i hs
      refine op_mul pins s σ H _ _ vx vy Q I rx ry ⟨_, _, rfl, rfl, ?_, og_val q rh rfl⟩
      rw [Bool.or_eq_true] at hs
      rcases hs with hs | hs
      · exact .inl (small_iff hs)
      · exact .inr (small_iff hs)
    · exact (show False from q).elim
  · exact (show False from q).elim
theorem r2_fdiv : OpR X (binaryOp .FloorDiv) (r2 X.K W opFdiv) := by
  intro pins s σ H x y vx vy Q I rx ry ⟨N, ρ, h, v, w, rh, rv, rw', q⟩
  unfold opFdiv at q
  split at q
  · cases (show x = _ from rv); cases (show y = _ from rw')
    split at q
    · rename_i hs
      rw [Bool.and_eq_true] at hs
      exact op_fdiv pins s σ H _ _ vx vy Q I rx ry ⟨_, _, rfl, rfl, ⟨of_decide_eq_true hs.1, of_decide_eq_true hs.2⟩, og_val q rh rfl⟩
    · exact (show False from q).elim
  · exact (show False from q).elim
theorem r2_mod : OpR X (binaryOp .Mod) (r2 X.K W opMod) := by
  intro pins s σ H x y vx vy Q I rx ry ⟨N, ρ, h, v, w, rh, rv, rw', q⟩
  unfold opMod at q
  split at q
  · cases (show x = _ from rv); cases (show y = _ from rw')
    split at q
    · rename_i hs
      exact op_mod pins s σ H _ _ vx vy Q I rx ry ⟨_, _, rfl, rfl, of_decide_eq_true hs, og_val q rh rfl⟩
    · exact (show False from q).elim
  · exact (show False from q).elim
theorem r2_pow : OpR X (binaryOp .Pow) (r2 X.K W opPow) := by
  intro pins s σ H x y vx vy Q I rx ry ⟨N, ρ, h, v, w, rh, rv, rw', q⟩
  unfold opPow at q
  split at q
  · cases (show x = _ from rv); cases (show y = _ from rw')
    split at q
    · rename_i hs
      rw [Bool.and_eq_true, Bool.and_eq_true] at hs
      obtain ⟨⟨h1, h2⟩, h3⟩ := hs
      have h3 := small_iff h3
      exact op_pow pins s σ H _ _ vx vy Q I rx ry ⟨_, _, rfl, rfl, ⟨of_decide_eq_true h1, of_decide_eq_true h2, by omega⟩, og_val q rh rfl⟩
    · exact (show False from q).elim
  · exact (show False from q).elim
end
end EvS
namespace EvS
open PySem PySem.Spec PyProof.Rows L2 Ev
/-! ### data -/
mutual
theorem dp_of {K : PySem.W.Frag} {N : Nz} {ρ : List Addr} {H : Hp} : ∀ (n : Nat) (v : EV) (x : V), shp n v = true → RV K N ρ H v x → Dp K H x (pd v) ∧ (pd v).canLay0 = true ∧ (pd v).depth ≤ n
  | n, .non, x, _, r => by
    cases (show x = _ from r)
    exact ⟨.non, by simp [pd, PyData.canLay0], by simp [pd, PyData.depth]⟩
  | n, .bl b, x, _, r => by
    cases (show x = _ from r)
    exact ⟨.bl b, by simp [pd, PyData.canLay0], by simp [pd, PyData.depth]⟩
  | n, .int i, x, _, r => by
    cases (show x = _ from r)
    exact ⟨.int i, by simp [pd, PyData.canLay0], by simp [pd, PyData.depth]⟩
  | n, .str s, x, _, r => by
    obtain ⟨rfl, t⟩ := r
    refine ⟨.str _, ?_, by simp [pd, PyData.depth]⟩
    have := txt_all t
    simp only [pd, PyData.canLay0, PyData.strOk, toS]
    simpa using this
  | n + 1, .lst xs, x, e, r => by
    obtain ⟨p, ys, rfl, hp, _, ra⟩ := r
    obtain ⟨h1, h2, h3⟩ := dps_of n xs ys (by simpa [shp] using e) ra
    exact ⟨.lst (.of hp) h1, by simpa [pd, PyData.canLay0] using h2, by simp only [pd, PyData.depth]; omega⟩
  | n + 1, .tup xs, x, e, r => by
    obtain ⟨p, ys, rfl, hp, ra⟩ := r
    obtain ⟨h1, h2, h3⟩ := dps_of n xs ys (by simpa [shp] using e) ra
    exact ⟨.tup hp h1, by simpa [pd, PyData.canLay0] using h2, by simp only [pd, PyData.depth]; omega⟩
  | 0, .lst xs, x, e, _ => by simp [shp] at e
  | 0, .tup xs, x, e, _ => by simp [shp] at e
  | n, .dct _ _, x, e, _ => by simp [shp] at e
  | n, .fro _, x, e, _ => by simp [shp] at e
  | n, .ref _, x, e, _ => by simp [shp] at e
  | n, .rep _, x, e, _ => by simp [shp] at e
theorem dps_of {K : PySem.W.Frag} {N : Nz} {ρ : List Addr} {H : Hp} : ∀ (n : Nat) (vs : List EV) (xs : List V), shps n vs = true → RVs K N ρ H vs xs → DpAll K H xs (pds vs) ∧ PyData.canLayAll0 (pds vs) = true ∧ PyData.depthAll (pds vs) ≤ n
  | n, [], xs, _, r => by
    cases (show xs = _ from r)
    exact ⟨.nil, by simp [pds, PyData.canLayAll0], by simp [pds, PyData.depthAll]⟩
  | n, v :: vs, xs, e, r => by
    obtain ⟨y, q, rfl, h1, h2⟩ := r
    simp only [shps, Bool.and_eq_true] at e
    obtain ⟨a1, a2, a3⟩ := dp_of n v y e.1 h1
    obtain ⟨b1, b2, b3⟩ := dps_of n vs q e.2 h2
    exact ⟨.cons a1 b1, by simp [pds, PyData.canLayAll0, a2, b2], by simp only [pds, PyData.depthAll]; omega⟩
end
mutual
theorem eqv_pd : ∀ (n m : Nat) (v w : EV), shp n v = true → shp m w = true → PyData.eqv (pd v) (pd w) = eqv v w
  | n, m, .non, w, _, e => by cases w <;> first | (simp [pd, PyData.eqv, eqv]; done) | (simp [shp] at e; done)
  | n, m, .bl b, w, _, e => by cases w <;> first | (simp [pd, PyData.eqv, eqv]; done) | (simp [shp] at e; done)
  | n, m, .int i, w, _, e => by cases w <;> first | (simp [pd, PyData.eqv, eqv]; done) | (simp [shp] at e; done)
  | n, m, .str s, w, _, e => by
    cases w with
    | str t =>
      simp only [pd, PyData.eqv, eqv]
      rw [Bool.eq_iff_iff]
      simp only [beq_iff_eq]
      exact ⟨fun h => toS_inj h, fun h => by rw [h]⟩
    | _ => first | (simp [pd, PyData.eqv, eqv]; done) | (simp [shp] at e; done)
  | n + 1, m, .lst xs, w, e', e => by
    cases w with
    | lst ys =>
      cases m with
      | zero => simp [shp] at e
      | succ m =>
        simp only [pd, PyData.eqv, eqv]
        exact eqvs_pd n m xs ys (by simpa [shp] using e') (by simpa [shp] using e)
    | _ => first | (simp [pd, PyData.eqv, eqv]; done) | (simp [shp] at e; done)
  | n + 1, m, .tup xs, w, e', e => by
    cases w with
    | tup ys =>
      cases m with
      | zero => simp [shp] at e
      | succ m =>
        simp only [pd, PyData.eqv, eqv]
        exact eqvs_pd n m xs ys (by simpa [shp] using e') (by simpa [shp] using e)
    | _ => first | (simp [pd, PyData.eqv, eqv]; done) | (simp [shp] at e; done)
  | 0, _, .lst xs, _, e, _ => by simp [shp] at e
  | 0, _, .tup xs, _, e, _ => by simp [shp] at e
  | _, _, .dct _ _, _, e, _ => by simp [shp] at e
  | _, _, .fro _, _, e, _ => by simp [shp] at e
  | _, _, .ref _, _, e, _ => by simp [shp] at e
  | _, _, .rep _, _, e, _ => by simp [shp] at e
theorem eqvs_pd : ∀ (n m : Nat) (v w : List EV), shps n v = true → shps m w = true → PyData.eqvAll (pds v) (pds w) = eqvs v w
  | _, _, [], [], _, _ => by simp [pds, PyData.eqvAll, eqvs]
  | _, _, [], _ :: _, _, _ => by simp [pds, PyData.eqvAll, eqvs]
  | _, _, _ :: _, [], _, _ => by simp [pds, PyData.eqvAll, eqvs]
  | n, m, v :: vs, w :: ws, e, e' => by
    simp only [shps, Bool.and_eq_true] at e e'
    simp only [pds, PyData.eqvAll, eqvs]
    rw [eqv_pd n m v w e.1 e'.1, eqvs_pd n m vs ws e.2 e'.2]
end
theorem shaped_of {d : PyData} {n : Nat} (h1 : d.canLay0 = true) (h2 : d.depth ≤ n) (hn : n ≤ 64) : SeqAt.shaped d = true := by
  unfold SeqAt.shaped
  rw [h1, Bool.true_and]
  exact decide_eq_true (by omega)
mutual
theorem same_pd : ∀ (v w : EV), samE v w = true → pd v = pd w
  | .non, w, e => by cases w <;> first | rfl | (simp [samE] at e; done)
  | .bl b, w, e => by
    cases w with
    | bl c => simp only [samE, beq_iff_eq] at e; rw [e]
    | _ => simp [samE] at e
  | .int b, w, e => by
    cases w with
    | int c => simp only [samE, beq_iff_eq] at e; rw [e]
    | _ => simp [samE] at e
  | .str b, w, e => by
    cases w with
    | str c => simp only [samE, beq_iff_eq] at e; rw [e]
    | _ => simp [samE] at e
  | .lst b, w, e => by
    cases w with
    | lst c => simp only [samE] at e; simp only [pd]; rw [sames_pd b c e]
    | _ => simp [samE] at e
  | .tup b, w, e => by
    cases w with
    | tup c => simp only [samE] at e; simp only [pd]; rw [sames_pd b c e]
    | _ => simp [samE] at e
  | .dct _ _, w, e => by simp [samE] at e
  | .fro _, w, e => by simp [samE] at e
  | .ref _, w, e => by simp [samE] at e
  | .rep _, w, e => by simp [samE] at e
theorem sames_pd : ∀ (v w : List EV), samEs v w = true → pds v = pds w
  | [], [], _ => rfl
  | [], _ :: _, e => by simp [samEs] at e
  | _ :: _, [], e => by simp [samEs] at e
  | v :: vs, w :: ws, e => by
    simp only [samEs, Bool.and_eq_true] at e
    simp only [pds]
    rw [same_pd v w e.1, sames_pd vs ws e.2]
end
section
variable {X : Cx} {W : Nat → Hp → Prop}
theorem repEq_T {v w : EV} {b : Bool} (e : repEq v w = some b) : decide (repT v = repT w) = b := by
  unfold repEq at e
  split at e
  · rename_i a c
    cases e
    unfold repT
    cases a <;> cases c <;> decide +kernel
  · split at e
    · rename_i hs
      cases e
      unfold repT
      rw [same_pd _ _ hs]
      exact decide_eq_true rfl
    · cases e
theorem r2_eq (hu : X.A.units + 64 < cLine) : OpR X (compareOp .Eq) (r2 X.K W opEq) := by
  intro pins s σ H x y vx vy Q I rx ry ⟨N, ρ, h, v, w, rh, rv, rw', q⟩
  unfold opEq at q
  split at q
  · rename_i b e
    unfold eqQ at e
    split at e
    · cases (show x = _ from rv); cases (show y = _ from rw')
      refine L2.op_eq pins s σ H _ _ vx vy Q I rx ry ⟨rfl, ?_⟩
      rw [show decide (V.str (repT _) = V.str (repT _)) = b from by rw [dec_str, Bool.beq_eq_decide_eq]; exact repEq_T e]
      exact og_val q rh rfl
    · unfold eqR at e
      split at e
      · rename_i hs
        cases e
        rw [Bool.and_eq_true] at hs
        obtain ⟨a1, a2, a3⟩ := dp_of 60 v x hs.1 rv
        obtain ⟨b1, b2, b3⟩ := dp_of 60 w y hs.2 rw'
        refine op_eqD hu pins s σ H _ _ vx vy Q I rx ry ⟨_, _, a1, b1, shaped_of a2 a3 (by decide), shaped_of b2 b3 (by decide), ?_⟩
        rw [eqv_pd 60 60 v w hs.1 hs.2]
        exact og_val q rh rfl
      · cases e
  · exact (show False from q).elim
theorem r2_ne (hu : X.A.units + 64 < cLine) : OpR X (compareOp .NotEq) (r2 X.K W opNe) := by
  intro pins s σ H x y vx vy Q I rx ry ⟨N, ρ, h, v, w, rh, rv, rw', q⟩
  unfold opNe at q
  split at q
  · rename_i b e
    unfold eqQ at e
    split at e
    · cases (show x = _ from rv); cases (show y = _ from rw')
      refine L2.op_ne pins s σ H _ _ vx vy Q I rx ry ⟨rfl, ?_⟩
      rw [show decide (V.str (repT _) = V.str (repT _)) = b from by rw [dec_str, Bool.beq_eq_decide_eq]; exact repEq_T e]
      exact og_val q rh rfl
    · unfold eqR at e
      split at e
      · rename_i hs
        cases e
        rw [Bool.and_eq_true] at hs
        obtain ⟨a1, a2, a3⟩ := dp_of 60 v x hs.1 rv
        obtain ⟨b1, b2, b3⟩ := dp_of 60 w y hs.2 rw'
        refine op_neD hu pins s σ H _ _ vx vy Q I rx ry ⟨_, _, a1, b1, shaped_of a2 a3 (by decide), shaped_of b2 b3 (by decide), ?_⟩
        rw [eqv_pd 60 60 v w hs.1 hs.2]
        exact og_val q rh rfl
      · cases e
  · exact (show False from q).elim
theorem strLt_eq (a b : S) : decide ((toS a).cps.toList < (toS b).cps.toList) = strLt a b := rfl
theorem r2_lt : OpR X (compareOp .Lt) (r2 X.K W opLt) := by
  intro pins s σ H x y vx vy Q I rx ry ⟨N, ρ, h, v, w, rh, rv, rw', q⟩
  unfold opLt at q
  split at q
  · cases (show x = _ from rv); cases (show y = _ from rw')
    exact op_lt pins s σ H _ _ vx vy Q I rx ry ⟨_, _, rfl, rfl, og_val q rh rfl⟩
  · obtain ⟨rfl, _⟩ := rv
    obtain ⟨rfl, _⟩ := rw'
    exact op_lt_str pins s σ H _ _ vx vy Q I rx ry ⟨_, _, rfl, rfl, og_val q rh rfl⟩
  · exact (show False from q).elim
theorem r2_le : OpR X (compareOp .LtE) (r2 X.K W opLe) := by
  intro pins s σ H x y vx vy Q I rx ry ⟨N, ρ, h, v, w, rh, rv, rw', q⟩
  unfold opLe at q
  split at q
  · cases (show x = _ from rv); cases (show y = _ from rw')
    exact op_le pins s σ H _ _ vx vy Q I rx ry ⟨_, _, rfl, rfl, og_val q rh rfl⟩
  · obtain ⟨rfl, _⟩ := rv
    obtain ⟨rfl, _⟩ := rw'
    exact op_le_str pins s σ H _ _ vx vy Q I rx ry ⟨_, _, rfl, rfl, og_val q rh rfl⟩
  · exact (show False from q).elim
theorem r2_gt : OpR X (compareOp .Gt) (r2 X.K W opGt) := by
  intro pins s σ H x y vx vy Q I rx ry ⟨N, ρ, h, v, w, rh, rv, rw', q⟩
  unfold opGt at q
  split at q
  · cases (show x = _ from rv); cases (show y = _ from rw')
    exact op_gt pins s σ H _ _ vx vy Q I rx ry ⟨_, _, rfl, rfl, og_val q rh rfl⟩
  · exact (show False from q).elim
theorem r2_ge : OpR X (compareOp .GtE) (r2 X.K W opGe) := by
  intro pins s σ H x y vx vy Q I rx ry ⟨N, ρ, h, v, w, rh, rv, rw', q⟩
  unfold opGe at q
  split at q
  · cases (show x = _ from rv); cases (show y = _ from rw')
    exact op_ge pins s σ H _ _ vx vy Q I rx ry ⟨_, _, rfl, rfl, og_val q rh rfl⟩
  · exact (show False from q).elim
end
end EvS
end
section
set_option Elab.async false
set_option linter.all false
set_option maxRecDepth 100000
set_option maxHeartbeats 1000000
/-! EvK: is, in, subscripts, slices, builtins, methods. -/
namespace EvS
open PySem PySem.Spec PyProof.Rows L2 Ev
section
variable {K : PySem.W.Frag} {N : Nz} {ρ : List Addr} {H : Hp}
def isNonE : EV → Bool
  | .non => true
  | _ => false
theorem rv_non {v : EV} {x : V} (r : RV K N ρ H v x) : decide (x = .non) = isNonE v := by
  cases v with
  | non => cases (show x = _ from r); rfl
  | bl b => cases (show x = _ from r); rfl
  | int i => cases (show x = _ from r); rfl
  | str s => obtain ⟨rfl, _⟩ := r; rfl
  | tup xs => obtain ⟨p, ys, rfl, _⟩ := r; rfl
  | lst xs => obtain ⟨p, ys, rfl, _⟩ := r; rfl
  | dct ks vs => obtain ⟨p, ys, rfl, _⟩ := r; rfl
  | fro xs => obtain ⟨p, ys, rfl, _⟩ := r; rfl
  | ref n => obtain ⟨p, rfl, _⟩ := r; rfl
  | rep v => cases (show x = _ from r); rfl
theorem rv_flat {v : EV} {x : V} (r : RV K N ρ H v x) (f : flat v = true) : flatV x = true := by
  cases v with
  | non => cases (show x = _ from r); rfl
  | bl b => cases (show x = _ from r); rfl
  | int i => cases (show x = _ from r); rfl
  | str s => obtain ⟨rfl, _⟩ := r; rfl
  | _ => simp [flat] at f
theorem rvs_flat : ∀ {vs : List EV} {xs : List V}, RVs K N ρ H vs xs → vs.all flat = true → xs.all flatV = true
  | [], _, r, _ => by rw [show _ = [] from r]; rfl
  | v :: vs, _, r, f => by
    obtain ⟨y, q, rfl, h1, h2⟩ := r
    rw [List.all_cons, Bool.and_eq_true] at f ⊢
    exact ⟨rv_flat h1 f.1, rvs_flat h2 f.2⟩
theorem rv_eqv {v w : EV} {x y : V} (r : RV K N ρ H v x) (s : RV K N ρ H w y) (f : flat v = true) (g : flat w = true) : L2.eqV x y = eqv v w := by
  cases v with
  | non => cases (show x = _ from r); cases w with
    | non => cases (show y = _ from s); simp [L2.eqV, eqv]
    | bl b => cases (show y = _ from s); simp [L2.eqV, eqv]
    | int i => cases (show y = _ from s); simp [L2.eqV, eqv]
    | str t => obtain ⟨rfl, _⟩ := s; simp [L2.eqV, eqv]
    | _ => simp [flat] at g
  | bl c => cases (show x = _ from r); cases w with
    | non => cases (show y = _ from s); simp [L2.eqV, eqv]
    | bl b => cases (show y = _ from s); simp [L2.eqV, eqv]
    | int i => cases (show y = _ from s); simp [L2.eqV, eqv]
    | str t => obtain ⟨rfl, _⟩ := s; simp [L2.eqV, eqv]
    | _ => simp [flat] at g
  | int c => cases (show x = _ from r); cases w with
    | non => cases (show y = _ from s); simp [L2.eqV, eqv]
    | bl b => cases (show y = _ from s); simp [L2.eqV, eqv]
    | int i => cases (show y = _ from s); simp [L2.eqV, eqv]
    | str t => obtain ⟨rfl, _⟩ := s; simp [L2.eqV, eqv]
    | _ => simp [flat] at g
  | str c => obtain ⟨rfl, _⟩ := r; cases w with
    | non => cases (show y = _ from s); simp [L2.eqV, eqv]
    | bl b => cases (show y = _ from s); simp [L2.eqV, eqv]
    | int i => cases (show y = _ from s); simp [L2.eqV, eqv]
    | str t =>
      obtain ⟨rfl, _⟩ := s
      simp only [L2.eqV, eqv]
      rw [Bool.eq_iff_iff]
      simp only [beq_iff_eq]
      exact ⟨fun h => toS_inj h, fun h => by rw [h]⟩
    | _ => simp [flat] at g
  | _ => simp [flat] at f
theorem rvs_any {w : EV} {y : V} (s : RV K N ρ H w y) (g : flat w = true) : ∀ {vs : List EV} {xs : List V}, RVs K N ρ H vs xs → vs.all flat = true → inV y xs = vs.any fun z => eqv z w
  | [], _, r, _ => by rw [show _ = [] from r]; rfl
  | v :: vs, _, r, f => by
    obtain ⟨x, q, rfl, h1, h2⟩ := r
    rw [List.all_cons, Bool.and_eq_true] at f
    have ih := rvs_any s g h2 f.2
    unfold inV at ih ⊢
    rw [List.any_cons, List.any_cons, ih, rv_eqv h1 s f.1 g]
theorem rv_key {w : EV} {y : V} {k : K0} (s : RV K N ρ H w y) (e : keyOf w = some k) : y = kV (toK k) := by
  cases w with
  | int i =>
    cases (show y = _ from s)
    simp only [keyOf, Option.some.injEq] at e
    subst e; rfl
  | str t =>
    obtain ⟨rfl, _⟩ := s
    simp only [keyOf, Option.some.injEq] at e
    subst e; rfl
  | _ => simp [keyOf] at e
/-! ### dicts -/
theorem valV_nil {κ : Type} [DecidableEq κ] (k : κ) : valV ([] : List (κ × V)) k = none := rfl
theorem valV_cons {κ : Type} [DecidableEq κ] (p : κ × V) (r : List (κ × V)) (k : κ) : valV (p :: r) k = if p.1 = k then some p.2 else valV r k := by
  unfold valV
  rw [List.find?_cons]
  by_cases h : p.1 = k <;> simp [h]
theorem dget_rel : ∀ {ks : List K0} {vs : List EV} {kvs : List (Key × V)} {q : K0}, kvs.map (·.1) = ks.map toK → RVs K N ρ H vs (kvs.map (·.2)) →
    (match dget ks vs q with | some v => ∃ x, valV kvs (toK q) = some x ∧ RV K N ρ H v x | none => valV kvs (toK q) = none)
  | [], vs, kvs, q, e, r => by
    have : kvs = [] := by simpa using e
    subst this
    cases vs <;> exact valV_nil _
  | k :: ks, vs, [], q, e, r => by simp at e
  | k :: ks, vs, (a, x) :: kvs, q, e, r => by
    simp only [List.map_cons, List.cons.injEq] at e
    obtain ⟨e1, e2⟩ := e
    cases vs with
    | nil => exact absurd (show (x :: kvs.map (·.2) : List V) = [] from r) (by simp)
    | cons v vs =>
      obtain ⟨y, t, e3, h1, h2⟩ := r
      simp only [List.map_cons, List.cons.injEq] at e3
      obtain ⟨rfl, rfl⟩ := e3
      rw [valV_cons]
      unfold dget
      by_cases hk : k = q
      · subst hk
        rw [if_pos rfl, if_pos e1]
        exact ⟨x, rfl, h1⟩
      · have hk' : ¬ a = toK q := fun z => hk (toK_inj (e1.symm.trans z))
        rw [if_neg hk, if_neg hk']
        exact dget_rel e2 h2
theorem dget_mem : ∀ {ks : List K0} {vs : List EV} {q : K0}, ks.length = vs.length → (dget ks vs q).isSome = decide (q ∈ ks)
  | [], vs, q, e => by cases vs <;> simp [dget]
  | k :: ks, [], q, e => by simp at e
  | k :: ks, v :: vs, q, e => by
    unfold dget
    by_cases hk : k = q
    · subst hk
      simp
    · rw [if_neg hk, dget_mem (by simpa using e)]
      simp only [List.mem_cons]
      have : ¬ q = k := fun z => hk z.symm
      simp [this]
theorem dgetV {ks : List K0} {vs : List EV} {kvs : List (Key × V)} {p : Addr} {q : K0} (hp : Rd H p (.dK kvs)) (e : kvs.map (·.1) = ks.map toK) (r : RVs K N ρ H vs (kvs.map (·.2))) :
    ∃ o, DGet H p (kV (toK q)) o ∧ (match dget ks vs q with | some v => ∃ x, o = some x ∧ RV K N ρ H v x | none => o = none) := by
  refine ⟨valV kvs (toK q), .inl ⟨kvs, toK q, hp, rfl, rfl⟩, ?_⟩
  exact dget_rel e r
theorem dct_len {ks : List K0} {vs : List EV} {kvs : List (Key × V)} (e : kvs.map (·.1) = ks.map toK) (r : RVs K N ρ H vs (kvs.map (·.2))) : ks.length = vs.length := by
  have h1 := congrArg List.length e
  have h2 := r.length
  simp only [List.length_map] at h1 h2
  omega
end
section
variable {X : Cx} {W : Nat → Hp → Prop}
theorem r2_is : OpR X (compareOp .Is) (r2 X.K W opIs) := by
  intro pins s σ H x y vx vy Q I rx ry ⟨N, ρ, h, v, w, rh, rv, rw', q⟩
  unfold opIs at q
  split at q
  · rename_i a b
    cases (show x = _ from rv); cases (show y = _ from rw')
    cases rx
    cases ry
    exact wpAny_is_plain rfl (fin_bl I (og_val q rh rfl) (by cases a <;> cases b <;> rfl))
  · cases (show x = _ from rv); cases (show y = _ from rw')
    exact op_isN pins s σ H _ _ vx vy Q I rx ry ⟨rfl, og_val q rh rfl⟩
  · rename_i hn _
    have e := rv_non rv
    cases (show y = _ from rw')
    refine op_isN pins s σ H _ _ vx vy Q I rx ry ⟨rfl, ?_⟩
    rw [e]
    cases v <;> first | exact og_val q rh rfl | (exfalso; exact hn rfl) | (exfalso; simp_all)
  · exact (show False from q).elim
theorem r2_isnot : OpR X (compareOp .IsNot) (r2 X.K W opIsNot) := by
  intro pins s σ H x y vx vy Q I rx ry ⟨N, ρ, h, v, w, rh, rv, rw', q⟩
  unfold opIsNot at q
  split at q
  · rename_i a b
    cases (show x = _ from rv); cases (show y = _ from rw')
    cases rx
    cases ry
    exact wpAny_isNot_plain rfl (fin_bl I (og_val q rh rfl) (by cases a <;> cases b <;> rfl))
  · cases (show x = _ from rv); cases (show y = _ from rw')
    exact op_notN pins s σ H _ _ vx vy Q I rx ry ⟨rfl, og_val q rh rfl⟩
  · rename_i hn _
    have e := rv_non rv
    cases (show y = _ from rw')
    refine op_notN pins s σ H _ _ vx vy Q I rx ry ⟨rfl, ?_⟩
    rw [e]
    cases v <;> first | exact og_val q rh rfl | (exfalso; exact hn rfl) | (exfalso; simp_all)
  · exact (show False from q).elim
theorem r2_in (hu : X.A.units + 65 < cLine) : OpR X (compareOp .In) (r2 X.K W opIn) := by
  intro pins s σ H x y vx vy Q I rx ry ⟨N, ρ, h, v, w, rh, rv, rw', q⟩
  unfold opIn at q
  split at q
  · rename_i b e
    unfold Ev.inR at e
    split at e
    · split at e
      · obtain ⟨rfl, _⟩ := rv
        obtain ⟨rfl, _⟩ := rw'
        cases e
        exact op_in_sign pins s σ H _ _ vx vy Q I rx ry ⟨_, _, rfl, rfl, og_val q rh rfl⟩
      · cases e
    · obtain ⟨p, ys, rfl, hp, ra⟩ := rw'
      split at e
      · rename_i hf
        cases e
        rw [Bool.and_eq_true] at hf
        refine op_in_seq pins s σ H _ _ vx vy Q I rx ry ⟨p, ys, rfl, .inr hp, rv_flat rv hf.1, rvs_flat ra hf.2, ?_⟩
        show Q (.bl (inV x ys)) H
        rw [rvs_any rv hf.1 ra hf.2]
        exact og_val q rh rfl
      · cases e
    · rename_i ys
      split at e
      · rename_i hf
        cases e
        rw [Bool.and_eq_true] at hf
        obtain ⟨a1, a2, a3⟩ := dp_of 60 v x hf.1 rv
        have hl : shp 61 (.lst ys) = true := by simpa [shp] using hf.2
        obtain ⟨b1, b2, b3⟩ := dp_of 61 (.lst ys) y hl rw'
        refine op_inD hu pins s σ H _ _ vx vy Q I rx ry ⟨pd v, pds ys, a1, b1, shaped_of a2 a3 (by decide), shaped_of b2 b3 (by decide), ?_⟩
        have e2 : ∀ zs : List EV, shps 60 zs = true → ((pds zs).any fun z => PyData.eqv z (pd v)) = zs.any fun z => eqv z v := by
          intro zs
          induction zs with
          | nil => intro _; rfl
          | cons z zs ih =>
            intro hz
            simp only [shps, Bool.and_eq_true] at hz
            simp only [pds, List.any_cons]
            rw [ih hz.2, eqv_pd 60 60 z v hz.1 hf.1]
        rw [e2 ys hf.2]
        exact og_val q rh rfl
      · cases e
    · rename_i ks vs
      obtain ⟨p, kvs, rfl, hp, _, hk, hd, ra⟩ := rw'
      cases ek : keyOf v with
      | none => rw [ek] at e; cases e
      | some k =>
        rw [ek] at e
        cases e
        have := rv_key rv ek
        subst this
        obtain ⟨o, g, ho⟩ := dgetV (q := k) hp.2 hk ra
        cases ry
        refine d_in (by omega) I g rx fun s' I' => ⟨.bl o.isSome, H, I', rfl, ?_⟩
        have e3 : o.isSome = decide (k ∈ ks) := by
          rw [← dget_mem (dct_len hk ra)]
          cases hg : dget ks vs k with
          | none => rw [hg] at ho; rw [ho]; rfl
          | some u =>
            rw [hg] at ho
            obtain ⟨x', e', _⟩ := ho
            rw [e']; rfl
        rw [e3]
        exact og_val q rh rfl
    · cases e
  · exact (show False from q).elim
theorem r2_notin (hu : X.A.units + 65 < cLine) : OpR X (compareOp .NotIn) (r2 X.K W opNotIn) := by
  intro pins s σ H x y vx vy Q I rx ry ⟨N, ρ, h, v, w, rh, rv, rw', q⟩
  unfold opNotIn at q
  split at q
  · rename_i b e
    unfold Ev.inR at e
    split at e
    · split at e
      · obtain ⟨rfl, _⟩ := rv
        obtain ⟨rfl, _⟩ := rw'
        cases e
        exact op_notIn_sign pins s σ H _ _ vx vy Q I rx ry ⟨_, _, rfl, rfl, og_val q rh rfl⟩
      · cases e
    · obtain ⟨p, ys, rfl, hp, ra⟩ := rw'
      split at e
      · rename_i hf
        cases e
        rw [Bool.and_eq_true] at hf
        refine op_notIn_seq pins s σ H _ _ vx vy Q I rx ry ⟨p, ys, rfl, .inr hp, rv_flat rv hf.1, rvs_flat ra hf.2, ?_⟩
        show Q (.bl (!inV x ys)) H
        rw [rvs_any rv hf.1 ra hf.2]
        exact og_val q rh rfl
      · cases e
    · rename_i ys
      split at e
      · rename_i hf
        cases e
        rw [Bool.and_eq_true] at hf
        obtain ⟨a1, a2, a3⟩ := dp_of 60 v x hf.1 rv
        have hl : shp 61 (.lst ys) = true := by simpa [shp] using hf.2
        obtain ⟨b1, b2, b3⟩ := dp_of 61 (.lst ys) y hl rw'
        refine op_notInD hu pins s σ H _ _ vx vy Q I rx ry ⟨pd v, pds ys, a1, b1, shaped_of a2 a3 (by decide), shaped_of b2 b3 (by decide), ?_⟩
        have e2 : ∀ zs : List EV, shps 60 zs = true → ((pds zs).any fun z => PyData.eqv z (pd v)) = zs.any fun z => eqv z v := by
          intro zs
          induction zs with
          | nil => intro _; rfl
          | cons z zs ih =>
            intro hz
            simp only [shps, Bool.and_eq_true] at hz
            simp only [pds, List.any_cons]
            rw [ih hz.2, eqv_pd 60 60 z v hz.1 hf.1]
        rw [e2 ys hf.2]
        exact og_val q rh rfl
      · cases e
    · rename_i ks vs
      obtain ⟨p, kvs, rfl, hp, _, hk, hd, ra⟩ := rw'
      cases ek : keyOf v with
      | none => rw [ek] at e; cases e
      | some k =>
        rw [ek] at e
        cases e
        have := rv_key rv ek
        subst this
        obtain ⟨o, g, ho⟩ := dgetV (q := k) hp.2 hk ra
        cases ry
        refine d_notIn (by omega) I g rx fun s' I' => ⟨.bl (!o.isSome), H, I', rfl, ?_⟩
        have e3 : o.isSome = decide (k ∈ ks) := by
          rw [← dget_mem (dct_len hk ra)]
          cases hg : dget ks vs k with
          | none => rw [hg] at ho; rw [ho]; rfl
          | some u =>
            rw [hg] at ho
            obtain ⟨x', e', _⟩ := ho
            rw [e']; rfl
        rw [e3]
        exact og_val q rh rfl
    · cases e
  · exact (show False from q).elim
end
end EvS
end
section
set_option Elab.async false
set_option linter.all false
set_option maxRecDepth 100000
set_option maxHeartbeats 1000000
/-! EvL: subscripts, slices, builtins, methods. -/
namespace EvS
open PySem PySem.Spec PyProof.Rows L2 Ev
section
variable {K : PySem.W.Frag} {N : Nz} {ρ : List Addr} {H : Hp}
theorem ixAt_eq (n : Nat) (i : Int) : ixAt n i = ixN n i := rfl
theorem atX_rel {vs : List EV} {ys : List V} {i : Int} {v : EV} (r : RVs K N ρ H vs ys) (e : atX vs i = some v) : ∃ y, atI ys i = some y ∧ RV K N ρ H v y := by
  unfold atX at e
  rw [Option.bind_eq_some_iff] at e
  obtain ⟨j, h1, h2⟩ := e
  obtain ⟨y, h3, h4⟩ := r.get h2
  refine ⟨y, ?_, h4⟩
  unfold atI
  rw [Option.bind_eq_some_iff]
  exact ⟨j, by rw [← r.length, ← ixAt_eq]; exact h1, h3⟩
theorem cut_rel {vs : List EV} {ys : List V} {lo hi : Option Int} (r : RVs K N ρ H vs ys) : RVs K N ρ H (Ev.cut vs lo hi) (cutV ys lo hi) := by
  have hl := r.length
  have e : ∀ n d o, Ev.sIx n d o = HT.sIx n d o := fun n d o => by cases o <;> rfl
  unfold Ev.cut cutV
  rw [hl, e, e]
  exact RVs.take _ (RVs.drop _ r)
end
section
variable {X : Cx} {W : Nat → Hp → Prop}
theorem ix_r2 (hu : X.A.units + 1 < cLine) : IxR X (r2 X.K W opIdx) := by
  intro value slice pins s σ H x y vx vy Q I rx ry ⟨N, ρ, h, v, w, rh, rv, rw', q⟩ hs
  unfold opIdx at q
  split at q
  · obtain ⟨p, ys, rfl, hp, ra⟩ := rv
    cases (show y = _ from rw')
    split at q
    · rename_i e
      obtain ⟨z, e1, e2⟩ := atX_rel ra e
      exact ix_tup value slice pins s σ H _ _ vx vy Q I rx ry ⟨p, ys, _, z, rfl, rfl, hp, e1, og_val q rh e2⟩ hs
    · exact (show False from q).elim
  · obtain ⟨p, ys, rfl, hp, _, ra⟩ := rv
    cases (show y = _ from rw')
    split at q
    · rename_i e
      obtain ⟨z, e1, e2⟩ := atX_rel ra e
      exact ix_list value slice pins s σ H _ _ vx vy Q I rx ry ⟨p, ys, _, z, rfl, rfl, .of hp, e1, og_val q rh e2⟩ hs
    · exact (show False from q).elim
  · obtain ⟨p, ys, rfl, hp, ra⟩ := rv
    cases (show y = _ from rw')
    have hq : SqL X.K H p ys := by
      rcases hp with ⟨hp, _⟩ | hp
      · exact .inl hp
      · rcases hp with (hp | ⟨o, hp⟩) | hp
        · cases hp
        · cases hp
        · exact .inr hp
    split at q
    · rename_i e
      obtain ⟨z, e1, e2⟩ := atX_rel ra e
      exact ix_list value slice pins s σ H _ _ vx vy Q I rx ry ⟨p, ys, _, z, rfl, rfl, hq, e1, og_val q rh e2⟩ hs
    · exact (show False from q).elim
  · rename_i t i
    obtain ⟨rfl, ht⟩ := rv
    cases (show y = _ from rw')
    split at q
    · rename_i c e
      have hm : c ∈ t := by
        unfold atX at e
        rw [Option.bind_eq_some_iff] at e
        obtain ⟨j, _, h2⟩ := e
        exact List.mem_of_getElem? h2
      exact ix_str value slice pins s σ H _ _ vx vy Q I rx ry ⟨_, _, c, rfl, rfl, by rw [toS_len, L_eq]; exact txt_len ht, e, og_val q rh ⟨rfl, txt_one ht hm⟩⟩ hs
    · exact (show False from q).elim
  · rename_i n i
    obtain ⟨p, rfl, hp⟩ := rv
    cases (show y = _ from rw')
    split at q
    · rename_i xs hx
      obtain ⟨ys, h1, ra⟩ := rh.obj n p xs hp hx
      split at q
      · rename_i e
        obtain ⟨z, e1, e2⟩ := atX_rel ra e
        exact ix_list value slice pins s σ H _ _ vx vy Q I rx ry ⟨p, ys, _, z, rfl, rfl, .of h1, e1, og_val q rh e2⟩ hs
      · exact (show False from q).elim
    · exact (show False from q).elim
  · rename_i ks vs
    obtain ⟨p, kvs, rfl, hp, _, hk, hd, ra⟩ := rv
    split at q
    · rename_i k ek
      have := rv_key rw' ek
      subst this
      obtain ⟨o, g, ho⟩ := dgetV (q := k) hp.2 hk ra
      split at q
      · rename_i u hg
        rw [hg] at ho
        obtain ⟨z, rfl, rz⟩ := ho
        cases rx
        exact tail_any (dict_typeIs I g) PySem.F.slot_dict_getitem.lookup (d_getItem hu I g ry fun w' s3 I3 r3 => ⟨z, H, I3, r3, og_val q rh rz⟩) hs
      · exact (show False from q).elim
    · exact (show False from q).elim
  · exact (show False from q).elim
/-- a slice -/
def rCut (K : PySem.W.Frag) (W : Nat → Hp → Prop) : V → Option Int → Option Int → Hp → VK → Prop := fun x lo hi H Q => ∃ N ρ h v, RH K N ρ H h ∧ RV K N ρ H v x ∧ og K W N ρ H (opCut v lo hi h) (gv K N Q)
theorem sl_rCut : SlR X (rCut X.K W) := by
  intro pins s σ H x vx vl vu lo hi sl Q I rx hs pl pu ⟨N, ρ, h, v, rh, rv, q⟩
  unfold opCut at q
  split at q
  · rename_i xs
    obtain ⟨p, ys, rfl, hp, ra⟩ := rv
    refine sl_tupA pins s σ H _ vx vl vu lo hi sl Q I rx hs pl pu ⟨p, ys, rfl, hp, fun e => ?_, fun _ d hd => og_new q rh hd (RV.newT rh hd (cut_rel ra))⟩
    have e2 : Ev.cut xs lo hi = xs := by
      have es : ∀ n d o, Ev.sIx n d o = HT.sIx n d o := fun n d o => by cases o <;> rfl
      unfold Ev.cut
      rw [ra.length, es, es, e.1, e.2, List.drop_zero, Nat.sub_zero, ← ra.length, List.take_length]
    rw [e2] at q
    exact og_val q rh ⟨p, ys, rfl, hp, ra⟩
  · obtain ⟨p, ys, rfl, hp, _, ra⟩ := rv
    exact sl_list pins s σ H _ vx vl vu lo hi sl Q I rx hs pl pu ⟨p, ys, rfl, .of hp, fun d hd => og_new q rh hd (RV.newL rh hd (cut_rel ra))⟩
  · obtain ⟨p, ys, rfl, hp, ra⟩ := rv
    have hq : SqL X.K H p ys := by
      rcases hp with ⟨hp, _⟩ | hp
      · exact .inl hp
      · rcases hp with (hp | ⟨o, hp⟩) | hp
        · cases hp
        · cases hp
        · exact .inr hp
    exact sl_list pins s σ H _ vx vl vu lo hi sl Q I rx hs pl pu ⟨p, ys, rfl, hq, fun d hd => og_new q rh hd (RV.newL rh hd (cut_rel ra))⟩
  · exact (show False from q).elim
end
end EvS
end
section
set_option Elab.async false
set_option linter.all false
set_option maxRecDepth 100000
set_option maxHeartbeats 1000000
/-! EvM: builtins. -/
namespace EvS
open PySem PySem.Spec PyProof.Rows L2 Ev
/-! ### dicts, written -/
section
variable {K : PySem.W.Frag} {N : Nz} {ρ : List Addr} {H : Hp}
theorem putK_cons {κ : Type} [DecidableEq κ] (a : κ) (x : V) (r : List (κ × V)) (k : κ) (v : V) (hn : a ∉ r.map (·.1)) : putK ((a, x) :: r) k v = if a = k then (a, v) :: r else (a, x) :: putK r k v := by
  unfold putK
  by_cases h : a = k
  · subst h
    rw [if_pos rfl, if_pos (by simp)]
    simp only [List.map_cons, if_true, List.cons.injEq, true_and]
    refine (List.map_congr_left fun p hp => ?_).trans (List.map_id r)
    rw [if_neg]
    · rfl
    · intro e
      exact hn (List.mem_map.mpr ⟨p, hp, e⟩)
  · rw [if_neg h]
    have e1 : (((a, x) :: r).any fun kv => decide (kv.1 = k)) = r.any fun kv => decide (kv.1 = k) := by
      simp [h]
    rw [e1]
    by_cases hr : (r.any fun kv => decide (kv.1 = k)) = true
    · rw [if_pos hr, if_pos hr, List.map_cons, if_neg h]
    · rw [if_neg hr, if_neg hr, List.cons_append]
theorem dputK_nodup {ks : List K0} {q : K0} (h : ks.Nodup) : (dputK ks q).Nodup := by
  unfold dputK
  split
  · exact h
  · rename_i hq
    rw [List.nodup_append]
    exact ⟨h, by simp, fun a ha b hb => by simp at hb; subst hb; exact fun e => hq (e ▸ ha)⟩
theorem dputK_ok {ks : List K0} {q : K0} (h : KOk ks) (hq : kOk q = true) : KOk (dputK ks q) := by
  refine ⟨dputK_nodup h.1, fun k hk => ?_⟩
  unfold dputK at hk
  split at hk
  · exact h.2 k hk
  · rcases List.mem_append.mp hk with z | z
    · exact h.2 k z
    · rw [List.mem_singleton.mp z]; exact hq
theorem rv_kok {w : EV} {y : V} {k : K0} (s : RV K N ρ H w y) (e : keyOf w = some k) : kOk k = true := by
  cases w with
  | int i => simp only [keyOf, Option.some.injEq] at e; subst e; rfl
  | str t => obtain ⟨_, ht⟩ := s; simp only [keyOf, Option.some.injEq] at e; subst e; exact ht
  | _ => simp [keyOf] at e
theorem dputK_cons (k : K0) (ks : List K0) (q : K0) : dputK (k :: ks) q = if k = q then k :: ks else k :: dputK ks q := by
  unfold dputK
  by_cases h : k = q
  · subst h; simp
  · rw [if_neg h]
    have h' : ¬ q = k := fun e => h e.symm
    by_cases hq : q ∈ ks
    · rw [if_pos hq, if_pos (List.mem_cons_of_mem _ hq)]
    · rw [if_neg hq, if_neg (by simp [h', hq])]
      rfl
theorem dput_rel {v : EV} {x : V} (rv : RV K N ρ H v x) (q : K0) : ∀ {ks : List K0} {vs : List EV} {kvs : List (Key × V)}, ks.Nodup → kvs.map (·.1) = ks.map toK → RVs K N ρ H vs (kvs.map (·.2)) →
    (putK kvs (toK q) x).map (·.1) = (dputK ks q).map toK ∧ RVs K N ρ H (dputV ks vs q v) ((putK kvs (toK q) x).map (·.2))
  | [], vs, kvs, _, e, r => by
    have : kvs = [] := by simpa using e
    subst this
    have hv : vs = [] := List.length_eq_zero_iff.mp (by simpa using r.length)
    subst hv
    exact ⟨rfl, x, [], rfl, rv, rfl⟩
  | k :: ks, vs, [], _, e, r => by simp at e
  | k :: ks, vs, (a, y) :: kvs, nd, e, r => by
    simp only [List.map_cons, List.cons.injEq] at e
    obtain ⟨e1, e2⟩ := e
    obtain ⟨nd1, nd2⟩ := List.nodup_cons.mp nd
    have ha : a ∉ kvs.map (·.1) := by
      rw [e2]
      intro hm
      obtain ⟨k', hk', e'⟩ := List.mem_map.mp hm
      rw [e1] at e'
      exact nd1 (toK_inj e' ▸ hk')
    cases vs with
    | nil => exact absurd (show (y :: kvs.map (·.2) : List V) = [] from r) (by simp)
    | cons v' vs =>
      obtain ⟨z, t, e3, h1, h2⟩ := r
      simp only [List.map_cons, List.cons.injEq] at e3
      obtain ⟨rfl, rfl⟩ := e3
      rw [putK_cons a y kvs _ x ha, dputK_cons]
      unfold dputV
      by_cases hk : k = q
      · subst hk
        rw [if_pos e1, if_pos rfl, if_pos rfl]
        exact ⟨by simp [e1, e2], x, _, rfl, rv, h2⟩
      · have hk' : ¬ a = toK q := fun z => hk (toK_inj (e1.symm.trans z))
        rw [if_neg hk', if_neg hk, if_neg hk]
        obtain ⟨i1, i2⟩ := dput_rel rv q nd2 e2 h2
        exact ⟨by simp [e1, i1], y, _, rfl, h1, i2⟩
theorem dmerge_ok : ∀ (ks' : List K0) (vs' : List EV) (ks : List K0) (vs : List EV), (∀ k ∈ ks', kOk k = true) → KOk ks → KOk (dmerge ks' vs' ks vs).1
  | [], _, ks, vs, _, h => by unfold dmerge; exact h
  | k :: ks', [], ks, vs, _, h => by unfold dmerge; exact h
  | k :: ks', v :: vs', ks, vs, a, h => by
    unfold dmerge
    exact dmerge_ok ks' vs' _ _ (fun k hk => a k (List.mem_cons_of_mem _ hk)) (dputK_ok h (a k List.mem_cons_self))
theorem dmerge_rel : ∀ {ks' : List K0} {vs' : List EV} {kvs' : List (Key × V)} {ks : List K0} {vs : List EV} {kvs : List (Key × V)}, ks.Nodup → kvs.map (·.1) = ks.map toK → RVs K N ρ H vs (kvs.map (·.2)) →
    kvs'.map (·.1) = ks'.map toK → RVs K N ρ H vs' (kvs'.map (·.2)) →
    (mergeK kvs kvs').map (·.1) = (dmerge ks' vs' ks vs).1.map toK ∧ RVs K N ρ H (dmerge ks' vs' ks vs).2 ((mergeK kvs kvs').map (·.2))
  | [], vs', kvs', ks, vs, kvs, nd, e, r, e', r' => by
    have : kvs' = [] := by simpa using e'
    subst this
    unfold dmerge mergeK
    exact ⟨e, r⟩
  | k :: ks', vs', [], ks, vs, kvs, nd, e, r, e', r' => by simp at e'
  | k :: ks', vs', (a, y) :: kvs', ks, vs, kvs, nd, e, r, e', r' => by
    simp only [List.map_cons, List.cons.injEq] at e'
    obtain ⟨e1, e2⟩ := e'
    cases vs' with
    | nil => exact absurd (show (y :: kvs'.map (·.2) : List V) = [] from r') (by simp)
    | cons v' vs' =>
      obtain ⟨z, t, e3, h1, h2⟩ := r'
      simp only [List.map_cons, List.cons.injEq] at e3
      obtain ⟨rfl, rfl⟩ := e3
      obtain ⟨i1, i2⟩ := dput_rel h1 k nd e r
      unfold dmerge
      show (mergeK (putK kvs a y) kvs').map (·.1) = _ ∧ _
      rw [e1]
      have ih := dmerge_rel (dputK_nodup nd) i1 i2 e2 h2
      exact ih
/-- a list of pairs, as a dict takes it -/
theorem dictOf_rel : ∀ {xs : List EV} {ys : List V} {ks : List K0} {vs : List EV} {ks' : List K0} {vs' : List EV} {kvs : List (Key × V)}, dictOf xs ks vs = some (ks', vs') → RVs K N ρ H xs ys → KOk ks → kvs.map (·.1) = ks.map toK → RVs K N ρ H vs (kvs.map (·.2)) →
    ∃ (ps : List Addr) (more : List (Key × V)), ys = ps.map V.ref ∧ Paired (fun p kv => SqT K H p [kV kv.1, kv.2]) ps more ∧ (mergeK kvs more).map (·.1) = ks'.map toK ∧ KOk ks' ∧ RVs K N ρ H vs' ((mergeK kvs more).map (·.2))
  | [], ys, ks, vs, ks', vs', kvs, e, r, nd, hk, hv => by
    unfold dictOf at e
    cases e
    cases (show ys = [] from r)
    exact ⟨[], [], rfl, .nil, hk, nd, hv⟩
  | x :: xs, ys, ks, vs, ks', vs', kvs, e, r, nd, hk, hv => by
    obtain ⟨y, t, rfl, h1, h2⟩ := r
    unfold dictOf at e
    split at e
    · rename_i heq
      cases heq
    · rename_i k v r' heq
      cases heq
      split at e
      · rename_i q eq
        obtain ⟨p, zs, rfl, hp, y1, t1, rfl, g1, y2, t2, rfl, g2, g3⟩ := h1
        cases (show t2 = [] from g3)
        have kq := rv_kok g1 eq
        have := rv_key g1 eq
        subst this
        obtain ⟨i1, i2⟩ := dput_rel g2 q nd.1 hk hv
        obtain ⟨ps, more, rfl, a1, a2, a3, a4⟩ := dictOf_rel e h2 (dputK_ok nd kq) i1 i2
        exact ⟨p :: ps, (toK q, y2) :: more, rfl, .cons hp a1, a2, a3, a4⟩
      · cases e
    · cases e
end
/-! ### orders -/
theorem lt3_pd (a b : S) (c : Bool) (a' b' : S) (c' : Bool) : PySem.W.dataLt (pd (.tup [.str a, .str b, .bl c])) (pd (.tup [.str a', .str b', .bl c'])) = lt3 a b c a' b' c' := by
  simp only [pd, pds]
  rw [PySem.W.dataLt_tuple, PySem.W.dataLt_cons (by simp [PySem.W.alike]), PySem.W.dataLt_cons (by simp [PySem.W.alike]), PySem.W.dataLt_cons (by simp [PySem.W.alike]), PySem.W.dataLt_str, PySem.W.dataLt_str]
  have e : PyProof.Rows.lexLt PyProof.Rows.itemOrd (PySem.W.keyToksAll []) (PySem.W.keyToksAll []) = false := lex_irrefl _
  rw [e]
  have es : ∀ x y : S, (toS x == toS y) = (x == y) := fun x y => by
    rw [Bool.eq_iff_iff]
    simp only [beq_iff_eq]
    exact ⟨fun h => toS_inj h, fun h => by rw [h]⟩
  simp only [PyData.eqv, es, lt3, strLt, toS_list]
  by_cases h1 : (a == a') = true
  · simp only [h1, if_true]
    by_cases h2 : (b == b') = true
    · simp only [h2, if_true]
      cases c <;> cases c' <;> simp [PySem.W.dataLt, PySem.W.keyToks, PyProof.Rows.lexLt, PyProof.Rows.itemLt]
    · simp only [h2, if_false, Bool.false_eq_true]
      exact decide_eq_decide.mpr Iff.rfl
  · simp only [h1, if_false, Bool.false_eq_true]
    exact decide_eq_decide.mpr Iff.rfl

/-! ### sorted -/
theorem mergeSort_unique {α : Type} {le : α → α → Bool} (tr : ∀ a b c, le a b = true → le b c = true → le a c = true) (tot : ∀ a b, (le a b || le b a) = true) (anti : ∀ a b, le a b = true → le b a = true → a = b) {xs ys : List α}
    (p : ys.Perm xs) (s : ys.Pairwise fun a b => le a b = true) : ys = xs.mergeSort le := by
  have h1 := List.pairwise_mergeSort tr tot xs
  have h2 : ys.Perm (xs.mergeSort le) := p.trans (List.mergeSort_perm xs le).symm
  exact List.Perm.eq_of_pairwise (fun a b _ _ => anti a b) s h1 h2
theorem strLt_irrefl (a : S) : strLt a a = false := decide_eq_false (List.lt_irrefl a)
theorem strLe_trans (a b c : S) (h1 : (!strLt b a) = true) (h2 : (!strLt c b) = true) : (!strLt c a) = true := by
  simp only [strLt, Bool.not_eq_true', decide_eq_false_iff_not] at *
  exact fun h => absurd (List.le_trans (List.not_lt.mp h1) (List.not_lt.mp h2)) (List.not_le.mpr h)
theorem strLe_total (a b : S) : ((!strLt b a) || (!strLt a b)) = true := by
  simp only [strLt, Bool.or_eq_true, Bool.not_eq_true', decide_eq_false_iff_not]
  by_cases h : b < a
  · exact .inr fun q => List.lt_irrefl a (List.lt_trans q h)
  · exact .inl h
theorem strLe_anti (a b : S) (h1 : (!strLt b a) = true) (h2 : (!strLt a b) = true) : a = b := by
  simp only [strLt, Bool.not_eq_true', decide_eq_false_iff_not] at *
  exact List.le_antisymm (List.not_lt.mp h1) (List.not_lt.mp h2)
section
variable {K : PySem.W.Frag} {N : Nz} {ρ : List Addr} {H : Hp}
theorem each_of : ∀ {vs : List EV} {ys : List V} {its : List Value}, RVs K N ρ H vs ys → Vals ys its → PySem.W.EachIs (fun u v => ∃ x, RelV x u ∧ RV K N ρ H v x) its vs
  | [], ys, its, r, v => by
    cases (show ys = [] from r)
    cases v
    exact .nil
  | v :: vs, ys, its, r, w => by
    obtain ⟨y, t, rfl, h1, h2⟩ := r
    cases w with
    | cons a b => exact .cons ⟨y, a, h1⟩ (each_of h2 b)
theorem of_each : ∀ {its : List Value} {vs : List EV}, PySem.W.EachIs (fun u v => ∃ x, RelV x u ∧ RV K N ρ H v x) its vs → ∃ ys, Vals ys its ∧ RVs K N ρ H vs ys
  | _, _, .nil => ⟨[], .nil, rfl⟩
  | _, _, .cons ⟨x, a, b⟩ t => by
    obtain ⟨ys, h1, h2⟩ := of_each t
    exact ⟨x :: ys, .cons a h1, x, ys, rfl, b, h2⟩
theorem each_reads {X : Cx} {pins : List (Addr × Obj)} {σ : L2.St} {s : Shared} {n : Nat} (I : Inv X pins σ H s) : ∀ {its : List Value} {vs : List EV}, shps n vs = true → PySem.W.EachIs (fun u v => ∃ x, RelV x u ∧ RV X.K N ρ H v x) its vs → PySem.W.EachIs (fun u v => ∃ as, Reads s.heap u (pd v) as) its vs
  | _, _, _, .nil => .nil
  | _, v :: vs, e, .cons ⟨x, a, b⟩ t => by
    simp only [shps, Bool.and_eq_true] at e
    exact .cons (Dp.reads I _ _ _ (dp_of n v x e.1 b).1 a) (each_reads I e.2 t)
end
theorem st_of {v : EV} (h : isSt v = true) : ∃ s, v = .str s := by
  cases v with
  | str s => exact ⟨s, rfl⟩
  | _ => simp [isSt] at h
theorem t3_of {v : EV} (h : isT3 v = true) : ∃ a b c, v = .tup [.str a, .str b, .bl c] := by
  unfold isT3 at h
  split at h
  · exact ⟨_, _, _, rfl⟩
  · cases h
theorem shps_of (n : Nat) : ∀ {xs : List EV}, (∀ x ∈ xs, shp n x = true) → shps n xs = true
  | [], _ => by simp [shps]
  | x :: xs, h => by
    simp only [shps, Bool.and_eq_true]
    exact ⟨h x List.mem_cons_self, shps_of n fun y hy => h y (List.mem_cons_of_mem _ hy)⟩
/-- which things are sorted, in one word -/
theorem sort_kind {xs : List EV} (h : (xs.all isSt || xs.all isT3) = true) : PySem.W.AllAlike (xs.map pd) ∧ PySem.W.Sortable (xs.map pd) ∧ shps 1 xs = true ∧ ∀ a ∈ xs, ∀ b ∈ xs, PySem.W.dataLe false pd a b = leV a b := by
  rw [Bool.or_eq_true] at h
  rcases h with h | h
  · have hs : ∀ x ∈ xs, ∃ s, x = .str s := fun x hx => st_of (List.all_eq_true.mp h x hx)
    refine ⟨?_, .inr ?_, shps_of 1 fun x hx => ?_, fun a ha b hb => ?_⟩
    · intro d hd d' hd'
      obtain ⟨b, hb, rfl⟩ := List.mem_map.mp hd
      obtain ⟨b', hb', rfl⟩ := List.mem_map.mp hd'
      obtain ⟨s, rfl⟩ := hs b hb
      obtain ⟨s', rfl⟩ := hs b' hb'
      simp [pd, PySem.W.alike]
    · intro d hd
      obtain ⟨b, hb, rfl⟩ := List.mem_map.mp hd
      obtain ⟨s, rfl⟩ := hs b hb
      exact ⟨by simp [pd], fun xs => by simp [pd]⟩
    · obtain ⟨s, rfl⟩ := hs x hx
      simp [shp]
    · obtain ⟨s, rfl⟩ := hs a ha
      obtain ⟨s', rfl⟩ := hs b hb
      show (!PySem.W.dataLt (.str (toS s')) (.str (toS s))) = _
      rw [PySem.W.dataLt_str]
      rfl
  · have hs : ∀ x ∈ xs, ∃ a b c, x = .tup [.str a, .str b, .bl c] := fun x hx => t3_of (List.all_eq_true.mp h x hx)
    refine ⟨?_, .inl ?_, shps_of 1 fun x hx => ?_, fun a ha b hb => ?_⟩
    · intro d hd d' hd'
      obtain ⟨b, hb, rfl⟩ := List.mem_map.mp hd
      obtain ⟨b', hb', rfl⟩ := List.mem_map.mp hd'
      obtain ⟨s, t, u, rfl⟩ := hs b hb
      obtain ⟨s', t', u', rfl⟩ := hs b' hb'
      simp [pd, pds, PySem.W.alike, PySem.W.alikeAll]
    · intro d hd
      obtain ⟨b, hb, rfl⟩ := List.mem_map.mp hd
      obtain ⟨s, t, u, rfl⟩ := hs b hb
      exact ⟨.str (toS s), [.str (toS t), .bool u], by simp [pd, pds]⟩
    · obtain ⟨s, t, u, rfl⟩ := hs x hx
      simp [shp, shps]
    · obtain ⟨s, t, u, rfl⟩ := hs a ha
      obtain ⟨s', t', u', rfl⟩ := hs b hb
      show (!PySem.W.dataLt (pd (.tup [.str s', .str t', .bl u'])) (pd (.tup [.str s, .str t, .bl u]))) = _
      rw [lt3_pd]
      rfl
theorem mergeSort_congr {α : Type} {le le' : α → α → Bool} {xs : List α} (h : ∀ a ∈ xs, ∀ b ∈ xs, le a b = le' a b) : xs.mergeSort le = xs.mergeSort le' := by
  have e : PySem.W.EachIs (fun a b : α => a = b ∧ a ∈ xs) xs xs := by
    have : ∀ ys : List α, (∀ y ∈ ys, y ∈ xs) → PySem.W.EachIs (fun a b : α => a = b ∧ a ∈ xs) ys ys := by
      intro ys
      induction ys with
      | nil => intro _; exact .nil
      | cons y ys ih => intro hy; exact .cons ⟨rfl, hy y List.mem_cons_self⟩ (ih fun z hz => hy z (List.mem_cons_of_mem _ hz))
    exact this xs fun _ h => h
  have e2 := PySem.W.sort_each (r := le) (s := le') e fun p hp q hq => by
    obtain ⟨e1, m1⟩ := e.zip p hp
    obtain ⟨e2, m2⟩ := e.zip q hq
    rw [← e1, ← e2]
    exact h _ m1 _ m2
  have e3 : ∀ {as bs : List α}, PySem.W.EachIs (fun a b : α => a = b ∧ a ∈ xs) as bs → as = bs := by
    intro as bs t
    induction t with
    | nil => rfl
    | cons h _ ih => rw [h.1, ih]
  exact e3 e2
theorem rising_pw : ∀ (p : S) (l : List S), PyProof.Rows.risingS (toS p) (l.map toS) = true → (p :: l).Pairwise fun a b => (!strLt b a) = true
  | p, [], _ => by simp
  | p, x :: l, h => by
    simp only [List.map_cons, PyProof.Rows.risingS, Bool.and_eq_true] at h
    have ih := rising_pw x l h.2
    have h1 : (!strLt x p) = true := by
      have := h.1
      rw [PyProof.Rows.ltCps_eq] at this
      exact this
    refine List.pairwise_cons.mpr ⟨fun a ha => ?_, ih⟩
    rcases List.mem_cons.mp ha with e | ha
    · rw [e]; exact h1
    · exact strLe_trans p x a h1 ((List.pairwise_cons.mp ih).1 a ha)
theorem sorted_pw (l : List S) (h : PyProof.Rows.sortedS (l.map toS) = true) : l.Pairwise fun a b => (!strLt b a) = true := by
  cases l with
  | nil => exact .nil
  | cons x l => exact rising_pw x l h
theorem sort_strs (ss : List S) : ((ss.map K0.s).map kEV).mergeSort leV = (ss.mergeSort fun a b => !strLt b a).map EV.str := by
  have e : PySem.W.EachIs (fun (v : EV) (t : S) => v = .str t) ((ss.map K0.s).map kEV) ss := by
    induction ss with
    | nil => exact .nil
    | cons t ts ih => exact .cons rfl ih
  have e2 := PySem.W.sort_each (r := leV) (s := fun a b => !strLt b a) e fun p hp q hq => by
    rw [e.zip p hp, e.zip q hq]
    rfl
  have e3 : ∀ {as : List EV} {bs : List S}, PySem.W.EachIs (fun (v : EV) (t : S) => v = .str t) as bs → as = bs.map EV.str := by
    intro as bs t
    induction t with
    | nil => rfl
    | cons h _ ih => rw [h, ih]; rfl
  exact e3 e2
/-- one argument -/
def rB (K : PySem.W.Frag) (W : Nat → Hp → Prop) (b : Bi) : List V → Hp → VK → Prop := fun xs H Q => ∃ N ρ h v x, xs = [x] ∧ RH K N ρ H h ∧ RV K N ρ H v x ∧ og K W N ρ H (runBi b [v] h) (gv K N Q)
section
variable {X : Cx} {W : Nat → Hp → Prop}
theorem b_sorted (hc : X.calm = true) (hu : X.A.units + 64 < cLine) : CallR X (.builtin "sorted") (rB X.K W .sorted) := by
  intro pins s σ H xs us Q I r hh
  obtain ⟨N, ρ, h, v, x, rfl, rh, rv, q⟩ := hh
  cases v with
  | lst vs =>
    obtain ⟨p, ys, rfl, hp, hn, ra⟩ := rv
    simp only [runBi, sortV] at q
    by_cases hk : (vs.all isSt || vs.all isT3) = true
    · rw [if_pos hk] at q
      obtain ⟨k1, k2, k3, k4⟩ := sort_kind hk
      obtain ⟨its, rits, pl, hz⟩ := I.list (.of hp)
      rw [Vals.ref1 r]
      have e := each_of ra rits
      have lv := ra.length
      have lw := rits.length
      refine PySem.W.sorted_data (enc := pd) pl.isList e (each_reads I k3 e) k1 k2 (by omega) (fun b hb => ?_) fun out hl ho => ?_
      · have hd : (pd b).depth ≤ 1 := by
          have hk' := hk
          rw [Bool.or_eq_true] at hk'
          rcases hk' with hk' | hk'
          · obtain ⟨t, rfl⟩ := st_of (List.all_eq_true.mp hk' b hb)
            simp [pd, PyData.depth]
          · obtain ⟨t1, t2, t3, rfl⟩ := t3_of (List.all_eq_true.mp hk' b hb)
            simp [pd, pds, PyData.depth, PyData.depthAll]
        omega
      · rw [mergeSort_congr (le' := leV) fun a ha b hb => k4 a ha b hb] at ho
        obtain ⟨zs, h1, h2⟩ := of_each ho
        obtain ⟨ep, he'⟩ := PyProof.Rows.sortedAll_at s.heap its out.toArray
        have lz := h1.length
        have hn' : H (s.heap.objs.size + 1) = none := I.hok.fresh (Nat.le_succ _)
        refine ⟨.ref _, upd H (s.heap.objs.size + 1) (.lst zs), I.laid (t' := s.toks) (fun _ _ => PyProof.Rows.sortedAll_old) (Nat.le_succ _) ⟨by omega, out, ep, h1, he'⟩, rfl, ?_⟩
        exact og_new q rh hn' (RV.newL rh hn' h2)
    · rw [if_neg hk] at q
      exact (show False from q).elim
  | dct ks vs =>
    obtain ⟨p, kvs, rfl, hp, hn, hk, hd, ra⟩ := rv
    simp only [runBi] at q
    split at q
    · rename_i hb
      rw [Bool.and_eq_true] at hb
      have h64 := of_decide_eq_true hb.1
      have ex : ∀ ks : List K0, (ks.map kEV).all isSt = true → ∃ ss : List S, ks = ss.map K0.s := by
        intro ks
        induction ks with
        | nil => intro _; exact ⟨[], rfl⟩
        | cons k ks ih =>
          intro hh
          simp only [List.map_cons, List.all_cons, Bool.and_eq_true] at hh
          obtain ⟨ss, rfl⟩ := ih hh.2
          cases k with
          | i i => simp [kEV, isSt] at hh
          | s t => exact ⟨t :: ss, rfl⟩
      obtain ⟨ss, rfl⟩ := ex ks hb.2
      refine call_sortedD hc pins s σ H _ us Q I r ⟨p, kvs, ss.map toS, rfl, hp.2, by rw [hk, List.map_map, List.map_map]; rfl, by simpa using h64, fun zs d hperm hsort hd' => ?_⟩
      -- the texts behind
      have hz : ∃ ts : List S, zs = ts.map toS := ⟨zs.map fun z => z.cps.toList, by
        rw [List.map_map]
        refine (List.map_id zs).symm.trans (List.map_congr_left fun z _ => ?_)
        cases z
        rfl⟩
      obtain ⟨ts, rfl⟩ := hz
      have hperm' : ts.Perm ss := by
        have := hperm.map (fun z : Str => z.cps.toList)
        simpa [List.map_map, Function.comp_def, toS] using this
      have hpw : ts.Pairwise fun a b => (!strLt b a) = true := by
        exact sorted_pw ts hsort
      have e1 : ts = ss.mergeSort fun a b => !strLt b a := mergeSort_unique (fun a b c => strLe_trans a b c) strLe_total strLe_anti hperm' hpw
      have e2 : ((ss.map K0.s).map kEV).mergeSort leV = ts.map EV.str := by
        rw [sort_strs, e1]
      rw [e2] at q
      refine og_new q rh hd' (RV.newL rh hd' ?_)
      have : ∀ ts : List S, (∀ t ∈ ts, txt t = true) → RVs X.K N ρ H (ts.map EV.str) ((ts.map toS).map V.str) := by
        intro ts
        induction ts with
        | nil => intro _; rfl
        | cons t ts ih => intro ht; exact ⟨_, _, rfl, ⟨rfl, ht t List.mem_cons_self⟩, ih fun u hu => ht u (List.mem_cons_of_mem _ hu)⟩
      refine this ts fun t ht => ?_
      exact hd.2 (.s t) (List.mem_map.mpr ⟨t, hperm'.mem_iff.mp ht, rfl⟩)
    · exact (show False from q).elim
  | _ => exact (show False from q).elim
theorem b_len : CallR X (.builtin "len") (rB X.K W .len) := by
  intro pins s σ H xs us Q I r hh
  obtain ⟨N, ρ, h, v, x, rfl, rh, rv, q⟩ := hh
  cases v with
  | str t =>
    obtain ⟨rfl, ht⟩ := rv
    exact call_len_str pins s σ H _ us Q I r ⟨_, rfl, by rw [toS_len, L_eq]; exact txt_len ht, og_val q rh rfl⟩
  | tup vs =>
    obtain ⟨p, ys, rfl, hp, ra⟩ := rv
    have q : og X.K W N ρ H (.ok (.int vs.length) h) (gv X.K N Q) := q
    rw [ra.length] at q
    exact call_len_seq pins s σ H _ us Q I r ⟨p, ys, rfl, .inr hp, og_val q rh rfl⟩
  | lst vs =>
    obtain ⟨p, ys, rfl, hp, _, ra⟩ := rv
    have q : og X.K W N ρ H (.ok (.int vs.length) h) (gv X.K N Q) := q
    rw [ra.length] at q
    exact call_len_seq pins s σ H _ us Q I r ⟨p, ys, rfl, .inl (.of hp), og_val q rh rfl⟩
  | fro vs =>
    obtain ⟨p, ys, rfl, hp, ra⟩ := rv
    have q : og X.K W N ρ H (.ok (.int vs.length) h) (gv X.K N Q) := q
    rw [ra.length] at q
    have hq : SqL X.K H p ys := by
      rcases hp with ⟨hp, _⟩ | hp
      · exact .inl hp
      · rcases hp with (hp | ⟨o, hp⟩) | hp
        · cases hp
        · cases hp
        · exact .inr hp
    exact call_len_seq pins s σ H _ us Q I r ⟨p, ys, rfl, .inl hq, og_val q rh rfl⟩
  | dct ks vs =>
    obtain ⟨p, kvs, rfl, hp, hn, hk, hd, ra⟩ := rv
    have q : og X.K W N ρ H (.ok (.int ks.length) h) (gv X.K N Q) := q
    have hl : ks.length = kvs.length := by
      have := congrArg List.length hk
      simpa using this.symm
    rw [hl] at q
    obtain ⟨u, rfl, ru⟩ := vals1 r
    cases ru
    exact d_len I hp.2 fun t s' I' => ⟨.int kvs.length, H, I', ⟨t, rfl⟩, og_val q rh rfl⟩
  | _ => exact (show False from q).elim
theorem b_int : CallR X (.type "int") (rB X.K W .int_) := by
  intro pins s σ H xs us Q I r hh
  obtain ⟨N, ρ, h, v, x, rfl, rh, rv, q⟩ := hh
  cases v with
  | int i =>
    cases (show x = _ from rv)
    exact call_int1 pins s σ H _ us Q I r (.inl ⟨i, rfl, og_val q rh rfl⟩)
  | bl b =>
    cases (show x = _ from rv)
    exact call_int1 pins s σ H _ us Q I r (.inr ⟨b, rfl, og_val q rh (by cases b <;> rfl)⟩)
  | _ => exact (show False from q).elim
theorem b_abs : CallR X (.builtin "abs") (rB X.K W .abs) := by
  intro pins s σ H xs us Q I r hh
  obtain ⟨N, ρ, h, v, x, rfl, rh, rv, q⟩ := hh
  cases v with
  | int i =>
    cases (show x = _ from rv)
    exact call_abs pins s σ H _ us Q I r ⟨i, rfl, og_val q rh rfl⟩
  | _ => exact (show False from q).elim
theorem bls_of {K : PySem.W.Frag} {N : Nz} {ρ : List Addr} {H : Hp} : ∀ {vs : List EV} {ys : List V}, RVs K N ρ H vs ys → vs.all isBl = true → ∃ bs : List Bool, ys = bs.map V.bl ∧ vs.all trueBl = bs.all id
  | [], ys, r, _ => ⟨[], by rw [show ys = [] from r]; rfl, rfl⟩
  | v :: vs, ys, r, h => by
    obtain ⟨y, t, rfl, h1, h2⟩ := r
    rw [List.all_cons, Bool.and_eq_true] at h
    obtain ⟨bs, rfl, e⟩ := bls_of h2 h.2
    cases v with
    | bl b =>
      cases (show y = _ from h1)
      exact ⟨b :: bs, rfl, by rw [List.all_cons, List.all_cons, e]; rfl⟩
    | _ => simp [isBl] at h
theorem b_all (hc : X.calm = true) : CallR X (.builtin "all") (rB X.K W .all) := by
  intro pins s σ H xs us Q I r hh
  obtain ⟨N, ρ, h, v, x, rfl, rh, rv, q⟩ := hh
  cases v with
  | lst vs =>
    obtain ⟨p, ys, rfl, hp, _, ra⟩ := rv
    simp only [runBi] at q
    by_cases hb : vs.all isBl = true
    · rw [if_pos hb] at q
      obtain ⟨bs, rfl, e⟩ := bls_of ra hb
      rw [e] at q
      exact cr_all hc pins s σ H _ us Q I r ⟨p, bs, rfl, .of hp, og_val q rh rfl⟩
    · rw [if_neg hb] at q
      exact (show False from q).elim
  | _ => exact (show False from q).elim
theorem b_tuple : CallR X (.type "tuple") (rB X.K W .tuple) := by
  intro pins s σ H xs us Q I r hh
  obtain ⟨N, ρ, h, v, x, rfl, rh, rv, q⟩ := hh
  cases v with
  | lst vs =>
    obtain ⟨p, ys, rfl, hp, _, ra⟩ := rv
    exact call_tuple_of pins s σ H _ us Q I r ⟨p, ys, rfl, .inl ⟨.of hp, fun d hd => og_new q rh hd (RV.newT rh hd ra)⟩⟩
  | tup vs =>
    obtain ⟨p, ys, rfl, hp, ra⟩ := rv
    exact call_tuple_of pins s σ H _ us Q I r ⟨p, ys, rfl, .inr ⟨hp, og_val q rh ⟨p, ys, rfl, hp, ra⟩⟩⟩
  | _ => exact (show False from q).elim
theorem b_list : CallR X (.type "list") (rB X.K W .list) := by
  intro pins s σ H xs us Q I r hh
  obtain ⟨N, ρ, h, v, x, rfl, rh, rv, q⟩ := hh
  cases v with
  | lst vs =>
    obtain ⟨p, ys, rfl, hp, _, ra⟩ := rv
    exact call_list_of pins s σ H _ us Q I r ⟨p, ys, rfl, .inl (.of hp), fun d hd => og_new q rh hd (RV.newL rh hd ra)⟩
  | tup vs =>
    obtain ⟨p, ys, rfl, hp, ra⟩ := rv
    exact call_list_of pins s σ H _ us Q I r ⟨p, ys, rfl, .inr hp, fun d hd => og_new q rh hd (RV.newL rh hd ra)⟩
  | _ => exact (show False from q).elim
theorem b_dict (hc : X.calm = true) : CallR X (.type "dict") (rB X.K W .dict) := by
  intro pins s σ H xs us Q I r hh
  obtain ⟨N, ρ, h, v, x, rfl, rh, rv, q⟩ := hh
  cases v with
  | lst vs =>
    obtain ⟨p, ys, rfl, hp, _, ra⟩ := rv
    simp only [runBi] at q
    split at q
    · rename_i ks' vs' e
      obtain ⟨ps, more, rfl, a1, a2, a3, a4⟩ := dictOf_rel (kvs := []) e ra ⟨List.nodup_nil, fun k hk => by simp at hk⟩ rfl rfl
      exact call_dictP hc pins s σ H _ us Q I r ⟨p, ps, more, rfl, .of hp, a1, fun d hd => og_new q rh hd (RV.newD rh hd a2 a3 a4)⟩
    · exact (show False from q).elim
  | dct ks vs =>
    obtain ⟨p, kvs, rfl, hp, hn, hk, hd, ra⟩ := rv
    obtain ⟨u, rfl, ru⟩ := vals1 r
    cases ru
    exact d_copyOf I hp.2 fun d s' hd' I' => ⟨.ref d, _, I', rfl, og_new q rh hd' (RV.newD rh hd' hk hd ra)⟩
  | _ => exact (show False from q).elim
end
end EvS
end
section
set_option Elab.async false
set_option linter.all false
set_option maxRecDepth 100000
set_option maxHeartbeats 1000000
/-! EvN: isinstance, repr, methods. -/
namespace EvS
open PySem PySem.Spec PyProof.Rows L2 Ev
/-! ### isinstance -/
def tyN : Ty → String
  | .int => "int" | .bool => "bool" | .str => "str" | .tuple => "tuple" | .dict => "dict"
def tyE : EV → String
  | .non => "NoneType" | .bl _ => "bool" | .int _ => "int" | .str _ => "str" | .tup _ => "tuple" | .lst _ => "list" | .dct _ _ => "dict" | _ => ""
theorem kit_one (K : PySem.W.Frag) (v : EV) (t : Ty) (b : Bool) (e : isTy t v = some b) : PySem.W.kitOne K (.type (tyE v)) (.type (tyN t)) = some b := by
  cases v <;> cases t <;> simp only [isTy, reduceCtorEq] at e <;> (cases e; rfl)
theorem ty_of {K : PySem.W.Frag} {N : Nz} {ρ : List Addr} {H : Hp} {v : EV} {x : V} {t : Ty} {b : Bool} (e : isTy t v = some b) (r : RV K N ρ H v x) : TyX K H x (.type (tyE v)) := by
  cases v with
  | non => cases (show x = _ from r); exact .base .non
  | bl c => cases (show x = _ from r); exact .base (.bl c)
  | int i => cases (show x = _ from r); exact .base (.int i)
  | str s => obtain ⟨rfl, _⟩ := r; exact .base (.str _)
  | tup xs =>
    obtain ⟨p, ys, rfl, hp, _⟩ := r
    rcases hp with (hp | ⟨o, hp⟩) | ⟨o, its, n, hk, hc, _⟩
    · exact .base (.tup hp)
    · exact .fTuple hp
    · exact .kTuple hk hc
  | lst xs => obtain ⟨p, ys, rfl, hp, _⟩ := r; exact .base (.lst hp)
  | dct ks vs =>
    obtain ⟨p, kvs, rfl, ⟨_, hp⟩, _⟩ := r
    rcases hp with hp | ⟨o, hp⟩
    · exact .base (.dK hp)
    · exact .fDict hp
  | fro xs => cases t <;> simp [isTy] at e
  | ref n => cases t <;> simp [isTy] at e
  | rep v => cases t <;> simp [isTy] at e
/-! ### repr -/
mutual
theorem shown_ok {K : PySem.W.Frag} {N : Nz} {ρ : List Addr} {H : Hp} : ∀ (v : EV) (x : V), rok v = true → RV K N ρ H v x → (pd v).showable = true ∧ (pd v).hasDict = false ∧ (pd v).shown.length ≤ rsz v
  | .non, x, _, _ => ⟨by simp [pd, PyData.showable], by simp [pd, PyData.hasDict], by simp only [pd, PyData.shown, rsz]; decide⟩
  | .bl b, x, _, _ => ⟨by simp [pd, PyData.showable], by simp [pd, PyData.hasDict], by simp only [pd, PyData.shown, rsz]; cases b <;> decide⟩
  | .int i, x, e, _ => by
    simp only [rok, Bool.and_eq_true, decide_eq_true_eq] at e
    have hl : i.natAbs < 2 ^ 40 := by omega
    refine ⟨?_, by simp [pd, PyData.hasDict], ?_⟩
    · simp only [pd, PyData.showable]
      refine decide_eq_true ?_
      by_cases hz : i.natAbs = 0
      · rw [hz]; decide
      · have := (Nat.log2_lt hz).mpr hl
        omega
    · simp only [pd, PyData.shown, rsz]
      have h1 := int_text_length_le10 (a := i) (k := 13) (by decide) (by omega)
      have h2 : (Str.ofString (toString i)).length = (toString i).length := PySem.ofString_length _
      show (Str.ofString (toString i)).length ≤ 48
      omega
  | .str s, x, _, r => by
    obtain ⟨_, t⟩ := r
    refine ⟨by simp [pd, PyData.showable], by simp [pd, PyData.hasDict], ?_⟩
    simp only [pd, PyData.shown, rsz]
    have := StrLaws.reprText_len (toS s) fun c hc => by
      have h1 := List.all_eq_true.mp (txt_all t) c hc
      have h2 := of_decide_eq_true h1
      omega
    rw [toS_len] at this
    omega
  | .tup xs, x, e, r => by
    obtain ⟨p, ys, rfl, _, ra⟩ := r
    obtain ⟨h1, h2, h3⟩ := showns_ok xs ys (by simpa [rok] using e) ra
    refine ⟨by simpa [pd, PyData.showable] using h1, by simpa [pd, PyData.hasDict] using h2, ?_⟩
    simp only [pd, PyData.shown, rsz]
    have := fmt_text (PyData.shownAll (pds xs))
    omega
  | .lst _, _, e, _ => by simp [rok] at e
  | .dct _ _, _, e, _ => by simp [rok] at e
  | .fro _, _, e, _ => by simp [rok] at e
  | .ref _, _, e, _ => by simp [rok] at e
  | .rep _, _, e, _ => by simp [rok] at e
theorem showns_ok {K : PySem.W.Frag} {N : Nz} {ρ : List Addr} {H : Hp} : ∀ (vs : List EV) (xs : List V), roks vs = true → RVs K N ρ H vs xs → PyData.showableAll (pds vs) = true ∧ PyData.hasDictAll (pds vs) = false ∧ piled (PyData.shownAll (pds vs)) ≤ rszs vs
  | [], _, _, _ => ⟨by simp [pds, PyData.showableAll], by simp [pds, PyData.hasDictAll], by simp [pds, PyData.shownAll, piled, rszs]⟩
  | v :: vs, _, e, r => by
    obtain ⟨y, t, rfl, h1, h2⟩ := r
    simp only [roks, Bool.and_eq_true] at e
    obtain ⟨a1, a2, a3⟩ := shown_ok v y e.1 h1
    obtain ⟨b1, b2, b3⟩ := showns_ok vs t e.2 h2
    refine ⟨by simp [pds, PyData.showableAll, a1, b1], by simp [pds, PyData.hasDictAll, a2, b2], ?_⟩
    simp only [pds, PyData.shownAll, rszs]
    rw [piled_cons]
    omega
end
section
variable {X : Cx} {W : Nat → Hp → Prop}
theorem b_repr (hg : X.A.guards = some []) (hu : X.A.units + 64 < cLine) : CallR X (.builtin "repr") (rB X.K W .repr) := by
  intro pins s σ H xs us Q I r hh
  obtain ⟨N, ρ, h, v, x, rfl, rh, rv, q⟩ := hh
  simp only [runBi] at q
  split at q
  · rename_i hk
    simp only [Bool.and_eq_true, decide_eq_true_eq] at hk
    obtain ⟨⟨k1, k2⟩, k3⟩ := hk
    obtain ⟨a1, a2, a3⟩ := shown_ok v x k1 rv
    obtain ⟨b1, b2, b3⟩ := dp_of 40 v x k2 rv
    have hsz : (pd v).shown.length ≤ sizeLine := by rw [sizeLine_eq]; omega
    have fin : ∀ s' u, Inv X pins σ H s' → EP X pins σ Q (.str (pd v).shown u) s' := fun s' u I' => ⟨.str (repT v), H, I', ⟨u, rfl⟩, og_val q rh rfl⟩
    obtain ⟨u, rfl, ru⟩ := vals1 r
    cases v with
    | non => cases (show x = _ from rv); cases ru; exact P.repr_of_none (fin _ _ (I.tok _))
    | bl b => cases (show x = _ from rv); cases ru; exact P.repr_of_bool (fin _ _ (I.tok _))
    | int i =>
      cases (show x = _ from rv)
      obtain ⟨t, rfl⟩ := ru
      refine P.repr_of_int ?_ (fin _ _ (I.tok _))
      simp only [pd, PyData.showable] at a1
      exact of_decide_eq_true a1
    | str t =>
      obtain ⟨rfl, _⟩ := rv
      obtain ⟨t', rfl⟩ := ru
      exact P.repr_of_str (fin _ _ (I.tok _)) hsz
    | tup vs =>
      obtain ⟨p, ys, rfl, hp, ra⟩ := rv
      obtain ⟨as, hr⟩ := Dp.reads I _ _ _ b1 ru
      cases ru
      exact repr_of_reads' hr a1 (PyData.noDict_hsm a2) hg (by omega) (fun _ _ e => e) (fun h' u tk hk => fin _ _ (I.kept hk)) hsz
    | _ => simp [rok] at k1
  · exact (show False from q).elim
theorem b_isi {t : Ty} {pins : List (Addr × Obj)} {s : Shared} {σ : L2.St} {H : Hp} {x : V} {us : List Value} {Q : VK} (I : Inv X pins σ H s) (r : Vals [x, .ty (tyN t)] us) {N : Nz} {ρ : List Addr} {h : Hh} {v : EV} (rh : RH X.K N ρ H h) (rv : RV X.K N ρ H v x)
    (q : og X.K W N ρ H (runBi (.isinst t) [v] h) (gv X.K N Q)) : wpAny (model X.prog X.w) X.A (call (.builtin "isinstance") us) (EP X pins σ Q) X.xe s := by
  simp only [runBi] at q
  split at q
  · rename_i b e
    exact call_isi pins s σ H _ us Q I r ⟨x, .ty (tyN t), _, _, b, rfl, .ty _, ty_of e rv, kit_one X.K v t b e, og_val q rh rfl⟩
  · exact (show False from q).elim
end
end EvS
end
section
set_option Elab.async false
set_option linter.all false
set_option maxRecDepth 100000
set_option maxHeartbeats 1000000
/-! EvP: expressions. -/
namespace EvS
open PySem PySem.Spec PyProof.Rows L2 Ev
/-! ### states -/
/-- the slots and the shared lists -/
structure SE (K : PySem.W.Frag) (N : Nz) (ρ : List Addr) (env : Ev.Env) (h : Hh) (σ : L2.St) (H : Hp) : Prop where
  rh : RH K N ρ H h
  len : env.length = σ.length
  val : ∀ (i : Nat) (v : EV), env[i]? = some (some (SV.val v)) → ∃ x, σ[i]? = some (some x) ∧ RV K N ρ H v x
  ol : ∀ (i : Nat) (xs : List EV), env[i]? = some (some (SV.oL xs)) → ∃ a ys, σ[i]? = some (some (.ref a)) ∧ H a = some (.lst ys) ∧ a ∉ ρ ∧ RVs K N ρ H xs ys
  od : ∀ (i : Nat) (ks : List K0) (vs : List EV), env[i]? = some (some (SV.oD ks vs)) → ∃ a kvs, σ[i]? = some (some (.ref a)) ∧ DR N.z H a kvs ∧ a ∉ ρ ∧ kvs.map (·.1) = ks.map toK ∧ KOk ks ∧ RVs K N ρ H vs (kvs.map (·.2))
section
variable {K : PySem.W.Frag} {W : Nat → Hp → Prop} {N : Nz} {ρ ρ1 : List Addr} {H H1 : Hp} {h h1 : Hh} {env : Ev.Env} {σ : L2.St} {α β : Type} {fz : Bool}
theorem SE.mono (s : SE K N ρ env h σ H) (e : Ext K ρ H ρ1 H1) (r : RH K N ρ1 H1 h1) : SE K N ρ1 env h1 σ H1 where
  rh := r
  len := s.len
  val := fun i v q => by
    obtain ⟨x, h1, h2⟩ := s.val i v q
    exact ⟨x, h1, RV.mono e Nle.rfl h2⟩
  ol := fun i xs q => by
    obtain ⟨a, ys, h1, h2, h3, h4⟩ := s.ol i xs q
    exact ⟨a, ys, h1, e.keep _ _ h2 h3 trivial, e.avoid h2 h3, RVs.mono e Nle.rfl h4⟩
  od := fun i ks vs q => by
    obtain ⟨a, kvs, h1, h2, h3, h4, h5, h6⟩ := s.od i ks vs q
    obtain ⟨o, ho⟩ := Rd.some h2.2
    exact ⟨a, kvs, h1, ⟨fun z => e.keep _ _ (h2.1 z) h3 trivial, Rd.keep h2.2 e h3 trivial⟩, e.avoid ho h3, h4, h5, RVs.mono e Nle.rfl h6⟩
/-- an expression's reading -/
def tM (K : PySem.W.Frag) (W : Nat → Hp → Prop) (fz : Bool) (m : M) : TE := fun σ H Q => ∃ N ρ env h, SE K N ρ env h σ H ∧ (fz = true → ∀ p, ¬ N.z p) ∧ og K W N ρ H (m env h) (gv K N Q)
/-- a test's -/
def tT (K : PySem.W.Frag) (W : Nat → Hp → Prop) (fz : Bool) (m : M) : TT := fun σ H Q => ∃ N ρ env h, SE K N ρ env h σ H ∧ (fz = true → ∀ p, ¬ N.z p) ∧ og K W N ρ H (m env h) (fun v _ _ H' => ∃ b, v = .bl b ∧ Q b H')
/-- an argument list's -/
def tMs (K : PySem.W.Frag) (W : Nat → Hp → Prop) (fz : Bool) (m : MN) : TA := fun σ H Q => ∃ N ρ env h, SE K N ρ env h σ H ∧ (fz = true → ∀ p, ¬ N.z p) ∧ og K W N ρ H (m env h) (fun vs _ ρ' H' => ∀ xs, RVs K N ρ' H' vs xs → Q xs H')
theorem tM_bind {m : M} {k : EV → Hh → Res β} {G : β → Hh → List Addr → Hp → Prop} {Q' : VK} (se : SE K N ρ env h σ H) (nf : fz = true → ∀ p, ¬ N.z p) (q : og K W N ρ H ((m env h).bind k) G)
    (c : ∀ v h1 ρ1 H1 x, Ext K ρ H ρ1 H1 → SE K N ρ1 env h1 σ H1 → (fz = true → ∀ p, ¬ N.z p) → RV K N ρ1 H1 v x → og K W N ρ1 H1 (k v h1) G → Q' x H1) : tM K W fz m σ H Q' :=
  ⟨N, ρ, env, h, se, nf, og_mono (og_bind q) fun v h1 ρ1 H1 _ e rh g x rx => c v h1 ρ1 H1 x e (se.mono e rh) nf rx g⟩
theorem tT_bind {m : M} {k : EV → Hh → Res β} {G : β → Hh → List Addr → Hp → Prop} {Q' : Bool → Hp → Prop} (se : SE K N ρ env h σ H) (nf : fz = true → ∀ p, ¬ N.z p) (q : og K W N ρ H ((m env h).bind k) G)
    (hk : ∀ v h, (∀ b, v ≠ .bl b) → k v h = .bad)
    (c : ∀ b h1 ρ1 H1, Ext K ρ H ρ1 H1 → SE K N ρ1 env h1 σ H1 → (fz = true → ∀ p, ¬ N.z p) → og K W N ρ1 H1 (k (.bl b) h1) G → Q' b H1) : tT K W fz m σ H Q' :=
  ⟨N, ρ, env, h, se, nf, og_mono (og_bind q) fun v h1 ρ1 H1 _ e rh g => by
    cases v with
    | bl b => exact ⟨b, rfl, c b h1 ρ1 H1 e (se.mono e rh) nf g⟩
    | _ => rw [hk _ _ (by intro b; simp)] at g; exact (show False from g).elim⟩
theorem tMs_bind {m : MN} {k : List EV → Hh → Res β} {G : β → Hh → List Addr → Hp → Prop} {Q' : List V → Hp → Prop} (se : SE K N ρ env h σ H) (nf : fz = true → ∀ p, ¬ N.z p) (q : og K W N ρ H ((m env h).bind k) G)
    (c : ∀ vs h1 ρ1 H1 xs, Ext K ρ H ρ1 H1 → SE K N ρ1 env h1 σ H1 → (fz = true → ∀ p, ¬ N.z p) → RVs K N ρ1 H1 vs xs → og K W N ρ1 H1 (k vs h1) G → Q' xs H1) : tMs K W fz m σ H Q' :=
  ⟨N, ρ, env, h, se, nf, og_mono (og_bind q) fun v h1 ρ1 H1 _ e rh g x rx => c v h1 ρ1 H1 x e (se.mono e rh) nf rx g⟩
theorem tM_imp {m : M} {Q Q' : VK} (t : tM K W fz m σ H Q) (i : ∀ x H', Q x H' → Q' x H') : tM K W fz m σ H Q' := by
  obtain ⟨N, ρ, env, h, se, nf, q⟩ := t
  exact ⟨N, ρ, env, h, se, nf, og_mono q fun v h1 ρ1 H1 _ e rh g x rx => i x H1 (g x rx)⟩
end
theorem PEi {X : Cx} {e : Expr} {t t' : TE} (h : PE X e t) (i : ∀ σ H Q, t' σ H Q → t σ H Q) : PE X e t' := ⟨fun pins s σ H Q I q => h.run pins s σ H Q I (i σ H Q q)⟩
theorem PTi {X : Cx} {e : Expr} {t t' : TT} (h : PT X e t) (i : ∀ σ H Q, t' σ H Q → t σ H Q) : PT X e t' := ⟨fun pins s σ H Q I q => h.run pins s σ H Q I (i σ H Q q)⟩
theorem PWi {X : Cx} {e : Expr} {t t' : TT} (h : PW X e t) (i : ∀ σ H Q, t' σ H Q → t σ H Q) : PW X e t' := ⟨fun w pins s σ H Q I q => h.run w pins s σ H Q I (i σ H Q q)⟩
theorem PAi {X : Cx} {e : List Expr} {t t' : TA} (h : PA X e t) (i : ∀ σ H Q, t' σ H Q → t σ H Q) : PA X e t' := ⟨fun pos pins s σ H Q I q => h.run pos pins s σ H Q I (i σ H Q q)⟩

/-! ### the combinators -/
def mVar (i : Nat) : M := fun env h => match Ev.valAt env i with
  | some v => .ok v h
  | none => .bad
def mOp (f : Op2) (m n : M) : M := fun env h => (m env h).bind fun x h => (n env h).bind fun y h => f x y h
def mUn (f : Op1) (m : M) : M := fun env h => (m env h).bind fun x h => f x h
def notV : Op1 := fun x h => match x with
  | .bl b => okB (!b) h
  | _ => .bad
def mNot (m : M) : M := mUn notV m
def mAnd (m n : M) : M := fun env h => (m env h).bind fun x h => (match x with
  | .bl true => n env h
  | .bl false => okB false h
  | _ => .bad)
def mOr (m n : M) : M := fun env h => (m env h).bind fun x h => (match x with
  | .bl false => n env h
  | .bl true => okB true h
  | _ => .bad)
def mIte (t a b : M) : M := fun env h => (t env h).bind fun x h => (match x with
  | .bl true => a env h
  | .bl false => b env h
  | _ => .bad)
def mChain (f g : Op2) (a b e : M) : M := fun env h => (a env h).bind fun x h => (b env h).bind fun y h => (f x y h).bind fun r h => (match r with
  | .bl true => (e env h).bind fun z h => g y z h
  | .bl false => okB false h
  | _ => .bad)
section
variable {X : Cx} {W : Nat → Hp → Prop} {fz : Bool} {a b c : Expr} {ma mb mc : M} {pos : Pos}
theorem Pvar {i : Nat} {x : Str} (hN : X.N[i]? = some x) (hv : Vis X.env.scope x) (hd : (x == ("__debug__" : Str)) = false) (hcd : (x == ("__classdict__" : Str)) = false) :
    PE X (.Name x pos) (tM X.K W fz (mVar i)) := by
  refine PEi (pe_var hN hv hd hcd) fun σ H Q ⟨N, ρ, env, h, se, nf, q⟩ => ?_
  unfold mVar at q
  cases e : Ev.valAt env i with
  | none => rw [e] at q; exact (show False from q).elim
  | some v =>
    rw [e] at q
    have e' : env[i]? = some (some (SV.val v)) := by
      unfold Ev.valAt at e
      split at e
      · rename_i w hw; cases e; exact hw
      · cases e
    obtain ⟨x, h1, h2⟩ := se.val i v e'
    exact ⟨x, h1, og_val q se.rh h2⟩
theorem Pconst {e : Expr} {v : V} {w : EV} (h : PE X e (tC v)) (r : ∀ N ρ H, RV X.K N ρ H w v) : PE X e (tM X.K W fz fun _ h => .ok w h) :=
  PEi h fun σ H Q ⟨N, ρ, env, h, se, nf, q⟩ => og_val q se.rh (r N ρ H)
theorem Pbin {op : Operator} {f : Op2} (ho : OpR X (binaryOp op) (r2 X.K W f)) (ha : PE X a (tM X.K W fz ma)) (hb : PE X b (tM X.K W fz mb)) : PE X (.BinOp a op b pos) (tM X.K W fz (mOp f ma mb)) :=
  PEi (pe_op ho ha hb) fun σ H Q ⟨N, ρ, env, h, se, nf, q⟩ => tM_bind se nf q fun v h1 ρ1 H1 x e1 se1 nf1 rx q1 => tM_bind se1 nf1 q1 fun w h2 ρ2 H2 y e2 se2 nf2 ry q2 => ⟨N, ρ2, h2, v, w, se2.rh, RV.mono e2 Nle.rfl rx, ry, q2⟩
theorem Pcmp {op : CmpOp} {f : Op2} (ho : OpR X (compareOp op) (r2 X.K W f)) (ha : PE X a (tM X.K W fz ma)) (hb : PE X b (tM X.K W fz mb)) (hm : behindInMarks op b = false) : PE X (.Compare a [op] [b] pos) (tM X.K W fz (mOp f ma mb)) :=
  PEi (pe_cmpR ho ha hb hm) fun σ H Q ⟨N, ρ, env, h, se, nf, q⟩ => tM_bind se nf q fun v h1 ρ1 H1 x e1 se1 nf1 rx q1 => tM_bind se1 nf1 q1 fun w h2 ρ2 H2 y e2 se2 nf2 ry q2 => ⟨N, ρ2, h2, v, w, se2.rh, RV.mono e2 Nle.rfl rx, ry, q2⟩
theorem gT_gv {K : PySem.W.Frag} {N : Nz} {ρ : List Addr} {H : Hp} {r : Res EV} {Q : Bool → Hp → Prop} (q : og K W N ρ H r (fun v _ _ H' => ∃ b, v = .bl b ∧ Q b H')) : og K W N ρ H r (gv K N fun x H' => ∃ k, x = .bl k ∧ Q k H') :=
  og_mono q fun v h1 ρ1 H1 _ e rh ⟨b, hb, g⟩ x rx => by
    subst hb
    exact ⟨b, rx, g⟩
theorem Tcmp {op : CmpOp} {f : Op2} (ho : OpR X (compareOp op) (r2 X.K W f)) (ha : PE X a (tM X.K W fz ma)) (hb : PE X b (tM X.K W fz mb)) (hm : behindInMarks op b = false) : PT X (.Compare a [op] [b] pos) (tT X.K W fz (mOp f ma mb)) :=
  PTi (pt_cmpR ho ha hb hm) fun σ H Q ⟨N, ρ, env, h, se, nf, q⟩ => tM_bind se nf (gT_gv q) fun v h1 ρ1 H1 x e1 se1 nf1 rx q1 => tM_bind se1 nf1 q1 fun w h2 ρ2 H2 y e2 se2 nf2 ry q2 => ⟨N, ρ2, h2, v, w, se2.rh, RV.mono e2 Nle.rfl rx, ry, q2⟩
/-- an expression whose test is its value's truth -/
theorem Tval {m : M} {e : Expr} (h : PE X e (tM X.K W fz m)) (he : ∀ whole, isTrue e X.env whole = (do let v ← whole; standAt e.pos; holding [v] (truthy v))) : PT X e (tT X.K W fz m) :=
  PTi (pt_val h he) fun σ H Q ⟨N, ρ, env, h, se, nf, q⟩ => ⟨N, ρ, env, h, se, nf, gT_gv q⟩
theorem Pnot (ha : PE X a (tM X.K W fz ma)) : PE X (.UnaryOp .Not a pos) (tM X.K W fz (mNot ma)) :=
  PEi (pe_not ha) fun σ H Q ⟨N, ρ, env, h, se, nf, q⟩ => tM_bind se nf q fun v h1 ρ1 H1 x e1 se1 nf1 rx q1 => by
    cases v with
    | bl b => exact ⟨b, rx, og_val q1 se1.rh rfl⟩
    | _ => exact (show False from q1).elim
theorem Tnot (ha : PT X a (tT X.K W fz ma)) : PT X (.UnaryOp .Not a pos) (tT X.K W fz (mNot ma)) :=
  PTi (pt_not ha) fun σ H Q ⟨N, ρ, env, h, se, nf, q⟩ => tT_bind se nf q (fun v h hv => by cases v <;> first | rfl | exact absurd rfl (hv _)) fun b h1 ρ1 H1 e1 se1 nf1 q1 => by
    obtain ⟨b', e', q'⟩ := og_here q1 se1.rh
    cases e'
    exact q'
theorem gT_bl {K : PySem.W.Frag} {N : Nz} {ρ : List Addr} {H : Hp} {h : Hh} {b : Bool} {Q : Bool → Hp → Prop} (q : og K W N ρ H (okB b h) (fun v _ _ H' => ∃ b, v = .bl b ∧ Q b H')) (rh : RH K N ρ H h) : Q b H := by
  obtain ⟨b', e', q'⟩ := og_here q rh
  cases e'
  exact q'
theorem Pand {rest : List Expr} (ha : PE X a (tM X.K W fz ma)) (hb : PE X (.BoolOp .And (b :: rest) pos) (tM X.K W fz mb)) : PE X (.BoolOp .And (a :: b :: rest) pos) (tM X.K W fz (mAnd ma mb)) :=
  PEi (pe_and ha hb) fun σ H Q ⟨N, ρ, env, h, se, nf, q⟩ => tM_bind se nf q fun v h1 ρ1 H1 x e1 se1 nf1 rx q1 => by
    cases v with
    | bl k =>
      refine ⟨k, rx, ?_⟩
      cases k with
      | true => exact ⟨N, ρ1, env, h1, se1, nf1, q1⟩
      | false => exact og_val q1 se1.rh rfl
    | _ => exact (show False from q1).elim
theorem Por {rest : List Expr} (ha : PE X a (tM X.K W fz ma)) (hb : PE X (.BoolOp .Or (b :: rest) pos) (tM X.K W fz mb)) : PE X (.BoolOp .Or (a :: b :: rest) pos) (tM X.K W fz (mOr ma mb)) :=
  PEi (pe_or ha hb) fun σ H Q ⟨N, ρ, env, h, se, nf, q⟩ => tM_bind se nf q fun v h1 ρ1 H1 x e1 se1 nf1 rx q1 => by
    cases v with
    | bl k =>
      refine ⟨k, rx, ?_⟩
      cases k with
      | true => exact og_val q1 se1.rh rfl
      | false => exact ⟨N, ρ1, env, h1, se1, nf1, q1⟩
    | _ => exact (show False from q1).elim
theorem bl_bad {k : EV → Hh → Res EV} (hk : k = fun x h => match x with | .bl true => mb [] h | .bl false => okB false h | _ => .bad) : True := trivial
theorem Tand {rest : List Expr} (ha : PT X a (tT X.K W fz ma)) (hb : PW X (.BoolOp .And (b :: rest) pos) (tT X.K W fz mb)) : PW X (.BoolOp .And (a :: b :: rest) pos) (tT X.K W fz (mAnd ma mb)) :=
  PWi (pw_and ha hb) fun σ H Q ⟨N, ρ, env, h, se, nf, q⟩ => tT_bind se nf q (fun v h hv => by cases v <;> first | rfl | exact absurd rfl (hv _)) fun k h1 ρ1 H1 e1 se1 nf1 q1 => by
    cases k with
    | true => exact ⟨N, ρ1, env, h1, se1, nf1, q1⟩
    | false => exact gT_bl q1 se1.rh
theorem Tor {rest : List Expr} (ha : PT X a (tT X.K W fz ma)) (hb : PW X (.BoolOp .Or (b :: rest) pos) (tT X.K W fz mb)) : PW X (.BoolOp .Or (a :: b :: rest) pos) (tT X.K W fz (mOr ma mb)) :=
  PWi (pw_or ha hb) fun σ H Q ⟨N, ρ, env, h, se, nf, q⟩ => tT_bind se nf q (fun v h hv => by cases v <;> first | rfl | exact absurd rfl (hv _)) fun k h1 ρ1 H1 e1 se1 nf1 q1 => by
    cases k with
    | false => exact ⟨N, ρ1, env, h1, se1, nf1, q1⟩
    | true => exact gT_bl q1 se1.rh
theorem Pite (hc : PT X c (tT X.K W fz mc)) (ha : PE X a (tM X.K W fz ma)) (hb : PE X b (tM X.K W fz mb)) : PE X (.IfExp c a b pos) (tM X.K W fz (mIte mc ma mb)) :=
  PEi (pe_ifExp hc ha hb) fun σ H Q ⟨N, ρ, env, h, se, nf, q⟩ => tT_bind se nf q (fun v h hv => by cases v <;> first | rfl | exact absurd rfl (hv _)) fun k h1 ρ1 H1 e1 se1 nf1 q1 => by
    cases k with
    | true => exact ⟨N, ρ1, env, h1, se1, nf1, q1⟩
    | false => exact ⟨N, ρ1, env, h1, se1, nf1, q1⟩
theorem Pchain {op op' : CmpOp} {f g : Op2} (ho : OpR X (compareOp op) (r2 X.K W f)) (ho' : OpR X (compareOp op') (r2 X.K W g)) (ha : PE X a (tM X.K W fz ma)) (hb : PE X b (tM X.K W fz mb)) (hc : PE X c (tM X.K W fz mc))
    (hm : lastMarks [op, op'] [b, c] = false) : PE X (.Compare a [op, op'] [b, c] pos) (tM X.K W fz (mChain f g ma mb mc)) :=
  PEi (pe_chain ho ho' ha hb hc hm) fun σ H Q ⟨N, ρ, env, h, se, nf, q⟩ => tM_bind se nf q fun v h1 ρ1 H1 x e1 se1 nf1 rx q1 => tM_bind se1 nf1 q1 fun w h2 ρ2 H2 y e2 se2 nf2 ry q2 => by
    refine ⟨N, ρ2, h2, v, w, se2.rh, RV.mono e2 Nle.rfl rx, ry, og_mono (og_bind q2) fun r h3 ρ3 H3 _ e3 rh3 q3 z rz => ?_⟩
    cases r with
    | bl k =>
      refine ⟨k, rz, ?_⟩
      have se3 := se2.mono e3 rh3
      have nf3 := nf2
      cases k with
      | true => exact tM_bind se3 nf3 q3 fun u h4 ρ4 H4 y' e4 se4 nf4 ry' q4 => ⟨N, ρ4, h4, w, u, se4.rh, RV.mono e4 Nle.rfl (RV.mono e3 Nle.rfl ry), ry', q4⟩
      | false => exact og_val q3 rh3 rfl
    | _ => exact (show False from q3).elim
theorem Tchain {op op' : CmpOp} {f g : Op2} (ho : OpR X (compareOp op) (r2 X.K W f)) (ho' : OpR X (compareOp op') (r2 X.K W g)) (ha : PE X a (tM X.K W fz ma)) (hb : PE X b (tM X.K W fz mb)) (hc : PE X c (tM X.K W fz mc))
    (hm : lastMarks [op, op'] [b, c] = false) : PT X (.Compare a [op, op'] [b, c] pos) (tT X.K W fz (mChain f g ma mb mc)) :=
  PTi (pt_chain ho ho' ha hb hc hm) fun σ H Q ⟨N, ρ, env, h, se, nf, q⟩ => tM_bind se nf (gT_gv q) fun v h1 ρ1 H1 x e1 se1 nf1 rx q1 => tM_bind se1 nf1 q1 fun w h2 ρ2 H2 y e2 se2 nf2 ry q2 => by
    refine ⟨N, ρ2, h2, v, w, se2.rh, RV.mono e2 Nle.rfl rx, ry, og_mono (og_bind q2) fun r h3 ρ3 H3 _ e3 rh3 q3 z rz => ?_⟩
    cases r with
    | bl k =>
      refine ⟨k, rz, ?_⟩
      have se3 := se2.mono e3 rh3
      have nf3 := nf2
      cases k with
      | true => exact tM_bind se3 nf3 q3 fun u h4 ρ4 H4 y' e4 se4 nf4 ry' q4 => ⟨N, ρ4, h4, w, u, se4.rh, RV.mono e4 Nle.rfl (RV.mono e3 Nle.rfl ry), ry', q4⟩
      | false => exact og_val q3 rh3 rfl
    | _ => exact (show False from q3).elim
theorem Pidx (hu : X.A.units + 1 < cLine) (ha : PE X a (tM X.K W fz ma)) (hb : PE X b (tM X.K W fz mb)) (hs : PlainIx b) : PE X (.Subscript a b pos) (tM X.K W fz (mOp opIdx ma mb)) :=
  PEi (pe_ix (ix_r2 (W := W) hu) ha hb hs) fun σ H Q ⟨N, ρ, env, h, se, nf, q⟩ => tM_bind se nf q fun v h1 ρ1 H1 x e1 se1 nf1 rx q1 => tM_bind se1 nf1 q1 fun w h2 ρ2 H2 y e2 se2 nf2 ry q2 => ⟨N, ρ2, h2, v, w, se2.rh, RV.mono e2 Nle.rfl rx, ry, q2⟩
end
end EvS
end
section
set_option Elab.async false
set_option linter.all false
set_option maxRecDepth 100000
set_option maxHeartbeats 1000000
/-! EvQ: displays, calls of builtins, methods. -/
namespace EvS
open PySem PySem.Spec PyProof.Rows L2 Ev
def ns : Expr → Bool
  | .Starred _ _ => false
  | _ => true
theorem star_cons {e : Expr} {es : List Expr} {env : PySem.Env} (h : ns e = true) : starEach (e :: es) env = (false, eval e env) :: starEach es env := by
  cases e <;> first | rfl | exact absurd h (by simp [ns])
theorem star_plain {pos : Pos} {env : PySem.Env} : ∀ {es : List Expr}, es.all ns = true → (backTo pos (starEach es env)).any (·.1) = false ∧ (backTo pos (starEach es env)).all (fun x => !x.1) = true
  | [], _ => ⟨rfl, rfl⟩
  | e :: es, h => by
    rw [List.all_cons, Bool.and_eq_true] at h
    rw [star_cons h.1]
    obtain ⟨h1, h2⟩ := star_plain (pos := pos) (env := env) h.2
    refine ⟨?_, ?_⟩
    · show (false || (backTo pos (starEach es env)).any (·.1)) = false
      rw [h1]; rfl
    · show (true && (backTo pos (starEach es env)).all (fun x => !x.1)) = true
      rw [h2]; rfl
def mNil : MN := fun _ h => .ok [] h
def mCons (m : M) (ms : MN) : MN := fun env h => (m env h).bind fun x h => (ms env h).bind fun xs h => .ok (x :: xs) h
def mTup (ms : MN) : M := fun env h => (ms env h).bind fun xs h => if xs.length ≤ Ev.L then .ok (.tup xs) h else .bad
def mLst (ms : MN) : M := fun env h => (ms env h).bind fun xs h => if xs.length ≤ Ev.L then .ok (.lst xs) h else .bad
def mBi (b : Bi) (m : M) : M := fun env h => (m env h).bind fun x h => runBi b [x] h
def mCall (f : List EV → Hh → Res EV) (ms : MN) : M := fun env h => (ms env h).bind fun xs h => f xs h
section
variable {X : Cx} {W : Nat → Hp → Prop} {fz : Bool} {a b c : Expr} {es : List Expr} {ma mb mc : M} {ms : MN} {pos : Pos}
theorem Anil : PA X [] (tMs X.K W fz mNil) := PAi pa_nil fun σ H Q ⟨N, ρ, env, h, se, nf, q⟩ => og_here q se.rh [] rfl
theorem Acons (hn : ns a = true) (ha : PE X a (tM X.K W fz ma)) (hr : PA X es (tMs X.K W fz ms)) : PA X (a :: es) (tMs X.K W fz (mCons ma ms)) :=
  PAi (pa_cons ha hr (star_cons hn)) fun σ H Q ⟨N, ρ, env, h, se, nf, q⟩ => tM_bind se nf q fun v h1 ρ1 H1 x e1 se1 nf1 rx q1 => tMs_bind se1 nf1 q1 fun vs h2 ρ2 H2 xs e2 se2 nf2 rs q2 =>
    og_here q2 se2.rh (x :: xs) ⟨x, xs, rfl, RV.mono e2 Nle.rfl rx, rs⟩
theorem Ptup {k : Nat} (h : PA X es (tMs X.K W fz ms)) : PE X (.Tuple es k pos) (tM X.K W fz (mTup ms)) :=
  PEi (pe_tup h) fun σ H Q ⟨N, ρ, env, h, se, nf, q⟩ => tMs_bind se nf q fun vs h1 ρ1 H1 xs e1 se1 nf1 rs q1 => by
    have hl := rs.length
    split at q1
    · rename_i hz
      exact ⟨by rw [L_eq]; omega, fun p hp => og_new q1 se1.rh hp (RV.newT se1.rh hp rs)⟩
    · exact (show False from q1).elim
theorem Plst (h : PA X es (tMs X.K W fz ms)) : PE X (.List es pos) (tM X.K W fz (mLst ms)) :=
  PEi (pe_lst h) fun σ H Q ⟨N, ρ, env, h, se, nf, q⟩ => tMs_bind se nf q fun vs h1 ρ1 H1 xs e1 se1 nf1 rs q1 => by
    have hl := rs.length
    split at q1
    · rename_i hz
      exact ⟨by rw [L_eq]; omega, fun p hp => og_new q1 se1.rh hp (RV.newL se1.rh hp rs)⟩
    · exact (show False from q1).elim
theorem Pdnew : PE X (.Dict [] [] pos) (tM X.K W fz fun _ h => .ok (.dct [] []) h) :=
  PEi pe_dnewK fun σ H Q ⟨N, ρ, env, h, se, nf, q⟩ => fun p hp => og_new q se.rh hp (RV.newD se.rh hp rfl ⟨List.nodup_nil, fun k hk => by simp at hk⟩ rfl)
/-- a builtin of one argument, by name -/
theorem Pbi {x : Str} {p : Pos} {id : String} {bi : Bi} (hc : CallR X (.builtin id) (rB X.K W bi)) (hg : Gl X x) (hm : X.mg x = none) (hv : bootBuiltins x = some (.builtin id)) (hn : x ≠ "__name__") (hdb : (x == ("__debug__" : Str)) = false) (na : ns a = true)
    (ha : PE X a (tM X.K W fz ma)) : PE X (.Call (.Name x p) [a] [] pos) (tM X.K W fz (mBi bi ma)) :=
  PEi (pe_callB hc hg hm hv (pa_cons ha pa_nil (star_cons na)) hn hdb (star_cons na) rfl) fun σ H Q ⟨N, ρ, env, h, se, nf, q⟩ => tM_bind se nf q fun v h1 ρ1 H1 y e1 se1 nf1 ry q1 => ⟨N, ρ1, h1, v, y, rfl, se1.rh, ry, q1⟩
theorem PbiT {x : Str} {p : Pos} {id : String} {bi : Bi} (hc : CallR X (.type id) (rB X.K W bi)) (hg : Gl X x) (hm : X.mg x = none) (hv : bootBuiltins x = some (.type id)) (hn : x ≠ "__name__") (hdb : (x == ("__debug__" : Str)) = false) (na : ns a = true)
    (ha : PE X a (tM X.K W fz ma)) : PE X (.Call (.Name x p) [a] [] pos) (tM X.K W fz (mBi bi ma)) :=
  PEi (pe_callTy hc hg hm hv (pa_cons ha pa_nil (star_cons na)) hn hdb (star_cons na) rfl) fun σ H Q ⟨N, ρ, env, h, se, nf, q⟩ => tM_bind se nf q fun v h1 ρ1 H1 y e1 se1 nf1 ry q1 => ⟨N, ρ1, h1, v, y, rfl, se1.rh, ry, q1⟩
/-- isinstance(a, T) -/
theorem Pisi {x y : Str} {p p2 : Pos} {t : Ty} (hg : Gl X x) (hm : X.mg x = none) (hv : bootBuiltins x = some (.builtin "isinstance")) (hn : x ≠ "__name__") (hdb : (x == ("__debug__" : Str)) = false) (na : ns a = true)
    (hgy : Gl X y) (hmy : X.mg y = none) (hvy : bootBuiltins y = some (.type (tyN t))) (hny : y ≠ "__name__") (hdy : (y == ("__debug__" : Str)) = false) (ha : PE X a (tM X.K W fz ma)) :
    PE X (.Call (.Name x p) [a, .Name y p2] [] pos) (tM X.K W fz (mBi (.isinst t) ma)) := by
  have hc : CallR X (.builtin "isinstance") (fun xs H Q => ∃ N ρ h v x, xs = [x, .ty (tyN t)] ∧ RH X.K N ρ H h ∧ RV X.K N ρ H v x ∧ og X.K W N ρ H (runBi (.isinst t) [v] h) (gv X.K N Q)) := by
    intro pins s σ H xs us Q I r hh
    obtain ⟨N, ρ, h, v, z, rfl, rh, rv, q⟩ := hh
    exact b_isi I r rh rv q
  have hy : PE X (.Name y p2) (tC (.ty (tyN t))) := pe_bltn hgy hmy hvy rfl hny hdy
  refine PEi (pe_callB hc hg hm hv (pa_cons ha (pa_cons hy pa_nil) (star_cons na)) hn hdb (star_cons na) rfl) fun σ H Q ⟨N, ρ, env, h, se, nf, q⟩ => tM_bind se nf q fun v h1 ρ1 H1 y e1 se1 nf1 ry q1 => ?_
  exact ⟨N, ρ1, h1, v, y, rfl, se1.rh, ry, q1⟩
/-- a slice's bound -/
abbrev MB := Ev.Env → Hh → Res (Option Int)
def mBno : MB := fun _ h => .ok none h
def mBso (m : M) : MB := fun env h => (m env h).bind fun x h => (match x with
    | .int i => .ok (some i) h
    | _ => .bad)
def mCut (a : M) (lo hi : MB) : M := fun env h => (a env h).bind fun x h => (lo env h).bind fun l h => (hi env h).bind fun u h => opCut x l u h
def tO (K : PySem.W.Frag) (W : Nat → Hp → Prop) (fz : Bool) (m : MB) : TO := fun σ H Q => ∃ N ρ env h, SE K N ρ env h σ H ∧ (fz = true → ∀ p, ¬ N.z p) ∧ og K W N ρ H (m env h) (fun o _ _ H' => Q o H')
theorem POi {e : Option Expr} {t t' : TO} (h : PO X e t) (i : ∀ σ H Q, t' σ H Q → t σ H Q) : PO X e t' := ⟨fun pins s σ H Q I q => h.run pins s σ H Q I (i σ H Q q)⟩
theorem Ono : PO X none (tO X.K W fz mBno) := POi po_none fun σ H Q ⟨N, ρ, env, h, se, nf, q⟩ => og_here q se.rh
theorem Oso {e : Expr} (he : PE X e (tM X.K W fz ma)) : PO X (some e) (tO X.K W fz (mBso ma)) :=
  POi (po_some he) fun σ H Q ⟨N, ρ, env, h, se, nf, q⟩ => tM_bind se nf q fun v h1 ρ1 H1 x e1 se1 nf1 rx q1 => by
    cases v with
    | int i =>
      cases (show x = _ from rx)
      exact ⟨i, rfl, og_here q1 se1.rh⟩
    | _ => exact (show False from q1).elim
theorem Pcut {o1 o2 : Option Expr} {p2 : Pos} {lo hi : MB} (ha : PE X a (tM X.K W fz ma)) (h1 : PO X o1 (tO X.K W fz lo)) (h2 : PO X o2 (tO X.K W fz hi)) : PE X (.Subscript a (.Slice o1 o2 none p2) pos) (tM X.K W fz (mCut ma lo hi)) :=
  PEi (pe_slice (sl_rCut (W := W)) ha h1 h2) fun σ H Q ⟨N, ρ, env, h, se, nf, q⟩ => tM_bind se nf q fun v h1 ρ1 H1 x e1 se1 nf1 rx q1 =>
    ⟨N, ρ1, env, h1, se1, nf1, og_mono (og_bind q1) fun l h2 ρ2 H2 _ e2 rh2 q2 =>
      ⟨N, ρ2, env, h2, se1.mono e2 rh2, nf1, og_mono (og_bind q2) fun u h3 ρ3 H3 _ e3 rh3 q3 => ⟨N, ρ3, h3, v, rh3, RV.mono e3 Nle.rfl (RV.mono e2 Nle.rfl rx), q3⟩⟩⟩
/-! ### methods -/
def base_ok : Expr → Bool
  | .Call (.Name _ _) [] [] _ => false
  | _ => true
theorem base_of {o : Expr} {n : Str} {env : PySem.Env} (h : base_ok o = true) : attributeBase o n env (eval o env) = eval o env := by
  unfold attributeBase
  split
  · exact absurd h (by simp [base_ok])
  · rfl
theorem few1 {a : Expr} {cpos : Pos} {env : PySem.Env} (na : ns a = true) : ((backTo cpos (starEach [a] env)).all (fun x => !x.1) && (backToKw cpos (keywordEach [] env)).all (fun x => x.1.isSome)
      && decide (([a] : List Expr).length + ([] : List Keyword).length + (if ([] : List Keyword).isEmpty then 0 else 1) < 30)) = true := by
  rw [star_cons na]
  rfl
def mGet (d k : M) : M := fun env h => (d env h).bind fun x h => (match x with
    | .dct ks vs => (k env h).bind fun y h => (match keyOf y with
      | some q => .ok ((dget ks vs q).getD .non) h
      | none => .bad)
    | _ => .bad)
theorem Pget {apos cpos : Pos} (hu : X.A.units + 1 < cLine) (ho : base_ok a = true) (nb : ns b = true) (hline : (apos.endLine == cpos.line) = true) (ha : PE X a (tM X.K W fz ma)) (hb : PE X b (tM X.K W fz mb)) :
    PE X (.Call (.Attribute a "get" apos) [b] [] cpos) (tM X.K W fz (mGet ma mb)) := by
  have m : M1 X a "get" apos b cpos := ⟨base_of ho, few1 nb, hline, by rw [star_cons nb]; rfl⟩
  refine PEi (pe_dget1 hu ha hb m) fun σ H Q ⟨N, ρ, env, h, se, nf, q⟩ => tM_bind se nf q fun v h1 ρ1 H1 x e1 se1 nf1 rx q1 => ?_
  cases v with
  | dct ks vs =>
    obtain ⟨p, kvs, rfl, hp, hn, hk, hd, ra⟩ := id rx
    refine ⟨p, rfl, .inl ⟨kvs, hp.2⟩, tM_bind se1 nf1 q1 fun w h2 ρ2 H2 y e2 se2 nf2 ry q2 => ?_⟩
    split at q2
    · rename_i k ek
      have := rv_key ry ek
      subst this
      have rx2 := RV.mono (N' := N) e2 Nle.rfl rx
      obtain ⟨p', kvs', e', hp', hn', hk', hd', ra'⟩ := rx2
      cases e'
      obtain ⟨o, g, hg⟩ := dgetV (q := k) hp'.2 hk' ra'
      refine ⟨o, g, og_val q2 se2.rh ?_⟩
      cases e3 : dget ks vs k with
      | none => rw [e3] at hg; rw [hg]; rfl
      | some u =>
        rw [e3] at hg
        obtain ⟨x', rfl, rx'⟩ := hg
        exact rx'
    · exact (show False from q2).elim
  | _ => exact (show False from q1).elim
/-! split -/
theorem splitS_free (c : Nat) : ∀ p : S, c ∉ p → splitS c p = [p]
  | [], _ => rfl
  | a :: r, h => by
    have ha : ¬ a = c := fun z => h (z ▸ List.mem_cons_self)
    unfold splitS
    rw [if_neg ha, splitS_free c r fun z => h (List.mem_cons_of_mem _ z)]
theorem splitS_app (c : Nat) (y : S) : ∀ p : S, c ∉ p → splitS c (p ++ [c] ++ y) = p :: splitS c y
  | [], _ => by
    show splitS c (c :: y) = _
    rw [splitS, if_pos rfl]
  | a :: r, h => by
    have ha : ¬ a = c := fun z => h (z ▸ List.mem_cons_self)
    show splitS c (a :: (r ++ [c] ++ y)) = _
    rw [splitS, if_neg ha, splitS_app c y r fun z => h (List.mem_cons_of_mem _ z)]
theorem join_splitS (c : Nat) : ∀ (ps : List S) (x : S), ps ≠ [] → (∀ p ∈ ps, c ∉ p) → PySem.Str.join (toS [c]) (ps.map toS) = toS x → splitS c x = ps
  | [], _, h, _, _ => absurd rfl h
  | [p], x, _, hc, e => by
    have e : toS p = toS x := e
    have := toS_inj e
    subst this
    exact splitS_free c p (hc p List.mem_cons_self)
  | p :: q :: ps, x, _, hc, e => by
    have e : toS p ++ toS [c] ++ PySem.Str.join (toS [c]) ((q :: ps).map toS) = toS x := e
    obtain ⟨y, hy⟩ : ∃ y : S, PySem.Str.join (toS [c]) ((q :: ps).map toS) = toS y := ⟨(PySem.Str.join (toS [c]) ((q :: ps).map toS)).cps.toList, by unfold toS; simp⟩
    have ih := join_splitS c (q :: ps) y (by simp) (fun z hz => hc z (List.mem_cons_of_mem _ hz)) hy
    rw [hy, toS_app, toS_app] at e
    have := toS_inj e
    subst this
    rw [splitS_app c y p (hc p List.mem_cons_self), ih]
theorem splitS_sub (c : Nat) : ∀ (x : S) (p : S), p ∈ splitS c x → (∀ a ∈ p, a ∈ x) ∧ p.length ≤ x.length
  | [], p, h => by
    have : p = [] := by simpa [splitS] using h
    subst this
    exact ⟨fun a h => h, Nat.le_refl _⟩
  | a :: r, p, h => by
    unfold splitS at h
    by_cases ha : a = c
    · rw [if_pos ha] at h
      rcases List.mem_cons.mp h with e | h
      · subst e; exact ⟨fun a h => by simp at h, Nat.zero_le _⟩
      · obtain ⟨h1, h2⟩ := splitS_sub c r p h
        exact ⟨fun b hb => List.mem_cons_of_mem _ (h1 b hb), Nat.le_succ_of_le h2⟩
    · rw [if_neg ha] at h
      cases e : splitS c r with
      | nil =>
        rw [e] at h
        have : p = [a] := by simpa using h
        subst this
        exact ⟨fun b hb => by simp at hb; subst hb; exact List.mem_cons_self, by simp⟩
      | cons q qs =>
        rw [e] at h
        rcases List.mem_cons.mp h with e2 | h
        · subst e2
          obtain ⟨h1, h2⟩ := splitS_sub c r q (by rw [e]; exact List.mem_cons_self)
          refine ⟨fun b hb => ?_, by simp; omega⟩
          rcases List.mem_cons.mp hb with z | z
          · subst z; exact List.mem_cons_self
          · exact List.mem_cons_of_mem _ (h1 b z)
        · obtain ⟨h1, h2⟩ := splitS_sub c r p (by rw [e]; exact List.mem_cons_of_mem _ h)
          exact ⟨fun b hb => List.mem_cons_of_mem _ (h1 b hb), Nat.le_succ_of_le h2⟩
theorem split_eq (x : S) (c : Nat) : Txt.split (toS x) (toS [c]) = (splitS c x).map toS := by
  have hz : ∃ ts : List S, Txt.split (toS x) (toS [c]) = ts.map toS := ⟨(Txt.split (toS x) (toS [c])).map fun z => z.cps.toList, by
    rw [List.map_map]
    refine (List.map_id _).symm.trans (List.map_congr_left fun z _ => ?_)
    cases z
    rfl⟩
  obtain ⟨ts, hts⟩ := hz
  have h1 := StrLaws.join_split (toS x) (toS [c])
  have h2 := StrLaws.split_free (toS x) c
  rw [show (⟨#[c]⟩ : Str) = toS [c] from rfl] at h2
  rw [hts] at h1 h2 ⊢
  have hne : ts ≠ [] := fun e => by
    subst e
    have h1 : PySem.Str.join (toS [c]) [] = toS x := h1
    have hx : x = [] := by
      have h1 : (⟨#[]⟩ : Str) = toS x := h1
      exact (toS_inj (a := []) h1).symm
    subst hx
    have : Txt.split (toS []) (toS [c]) = [toS []] := by
      unfold Txt.split
      rw [if_pos]
      show (decide ((0 : Nat) < 1) || _) = true
      rfl
    rw [hts] at this
    simp at this
  rw [join_splitS c ts x hne (fun p hp => h2 (toS p) (List.mem_map.mpr ⟨p, hp, rfl⟩)) h1]
def mSplit (m : M) (c : Nat) : M := fun env h => (m env h).bind fun x h => (match x with
    | .str s => if s.length + 2 ≤ Ev.L then .ok (.lst ((splitS c s).map .str)) h else .bad
    | _ => .bad)
theorem Psplit {apos cpos p2 : Pos} {k c : Nat} (ho : base_ok a = true) (hline : (apos.endLine == cpos.line) = true) (ha : PE X a (tM X.K W fz ma)) :
    PE X (.Call (.Attribute a "split" apos) [.Constant (.str (toS [c])) k p2] [] cpos) (tM X.K W fz (mSplit ma c)) := by
  have hs : PA X [Expr.Constant (.str (toS [c])) k p2] (tCons (tC (.str (toS [c]))) tNil) := pa_cons pe_str pa_nil
  refine PEi (pe_bm PySem.F.plainAttrs_str PySem.F.slot_str_split PySem.F.type_str_split mt_split ha hs (base_of ho) rfl hline rfl rfl) fun σ H Q ⟨N, ρ, env, h, se, nf, q⟩ => tM_bind se nf q fun v h1 ρ1 H1 x e1 se1 nf1 rx q1 => ?_
  cases v with
  | str t =>
    obtain ⟨rfl, ht⟩ := rx
    simp only at q1
    split at q1
    · rename_i hz
      refine ⟨rfl, toS t, toS [c], rfl, rfl, rfl, by rw [toS_len, L_eq]; exact hz, fun p hp => ?_⟩
      rw [split_eq]
      refine og_new q1 se1.rh hp (RV.newL se1.rh hp ?_)
      have hall : ∀ p ∈ splitS c t, txt p = true := fun p hp => by
        obtain ⟨h1, h2⟩ := splitS_sub c t p hp
        refine txt_mk (Nat.le_trans h2 (txt_len ht)) (List.all_eq_true.mpr fun a ha => List.all_eq_true.mp (txt_all ht) a (h1 a ha))
      have : ∀ ps : List S, (∀ p ∈ ps, txt p = true) → RVs X.K N ρ1 H1 (ps.map EV.str) ((ps.map toS).map V.str) := by
        intro ps
        induction ps with
        | nil => intro _; rfl
        | cons p ps ih => intro hh; exact ⟨_, _, rfl, ⟨rfl, hh p List.mem_cons_self⟩, ih fun u hu => hh u (List.mem_cons_of_mem _ hu)⟩
      exact this _ hall
    · exact (show False from q1).elim
  | _ => exact (show False from q1).elim
end
end EvS
end
section
set_option Elab.async false
set_option linter.all false
set_option maxRecDepth 100000
set_option maxHeartbeats 1000000
/-! EvT: index, list(d.items()), own slots that are looked at, calls of defs, what is fresh. -/
namespace EvS
open PySem PySem.Spec PyProof.Rows L2 Ev
def mIndex (l x : M) : M := fun env h => (l env h).bind fun l h => (match l with
    | .lst xs => (x env h).bind fun y h => if flat y && xs.all flat then (match xs.findIdx? (fun z => Ev.eqv z y) with
      | some j => .ok (.int j) h
      | none => .bad) else .bad
    | _ => .bad)
section
variable {X : Cx} {W : Nat → Hp → Prop} {fz : Bool} {a b c : Expr} {es : List Expr} {ma mb mc : M} {ms : MN} {pos : Pos}
theorem Pindex {apos cpos : Pos} (ho : base_ok a = true) (nb : ns b = true) (hline : (apos.endLine == cpos.line) = true) (ha : PE X a (tM X.K W fz ma)) (hb : PE X b (tM X.K W fz mb)) :
    PE X (.Call (.Attribute a "index" apos) [b] [] cpos) (tM X.K W fz (mIndex ma mb)) := by
  refine PEi (pe_bm PySem.F.plainAttrs_list PySem.F.slot_list_index PySem.F.type_list_index mt_index ha (pa_cons hb pa_nil (star_cons nb)) (base_of ho) (few1 nb) hline (star_cons nb) rfl) fun σ H Q ⟨N, ρ, env, h, se, nf, q⟩ => tM_bind se nf q fun v h1 ρ1 H1 x e1 se1 nf1 rx q1 => ?_
  cases v with
  | lst vs =>
    obtain ⟨p, ys, rfl, hp, hn, ra⟩ := id rx
    refine ⟨.inl ⟨rfl, ys, .of hp⟩, tM_bind se1 nf1 q1 fun w h2 ρ2 H2 y e2 se2 nf2 ry q2 => ?_⟩
    split at q2
    · rename_i hf
      rw [Bool.and_eq_true] at hf
      split at q2
      · rename_i j hj
        have hp2 : H2 p = some (.lst ys) := e2.keep _ _ hp hn.2 trivial
        have ra2 : RVs X.K N ρ2 H2 vs ys := RVs.mono e2 Nle.rfl ra
        rw [List.findIdx?_eq_some_iff_getElem] at hj
        obtain ⟨hlt, h3, h4⟩ := hj
        obtain ⟨z, hz, rz⟩ := ra2.get (List.getElem?_eq_getElem hlt)
        refine ⟨p, ys, y, j, z, rfl, rfl, .of hp2, rv_flat ry hf.1, rvs_flat ra2 hf.2, hz, ?_, fun m z' hm hz' => ?_, og_val q2 se2.rh rfl⟩
        · rw [rv_eqv rz ry (List.all_eq_true.mp hf.2 _ (List.getElem_mem hlt)) hf.1]
          exact h3
        · have hm' : m < vs.length := by omega
          obtain ⟨z2, hz2, rz2⟩ := ra2.get (List.getElem?_eq_getElem hm')
          rw [hz'] at hz2
          cases hz2
          rw [rv_eqv rz2 ry (List.all_eq_true.mp hf.2 _ (List.getElem_mem hm')) hf.1]
          have := h4 m hm
          simpa using this
      · exact (show False from q2).elim
    · exact (show False from q2).elim
  | _ => exact (show False from q1).elim
theorem pair2_rel {K : PySem.W.Frag} {N : Nz} {ρ : List Addr} {H' : Hp} : ∀ {ts : List Addr} {ks : List K0} {vs : List EV} {kvs : List (Key × V)}, Paired (fun (t : Addr) (q : Key × V) => H' t = some (.tup [kV q.1, q.2])) ts kvs → kvs.map (·.1) = ks.map toK → (∀ k ∈ ks, kOk k = true) → RVs K N ρ H' vs (kvs.map (·.2)) →
    RVs K N ρ H' (Ev.items ks vs) (ts.map V.ref)
  | [], ks, vs, kvs, p, e, ok, r => by
    cases p
    have : ks = [] := by simpa using e.symm
    subst this
    rfl
  | t :: ts, ks, vs, kvs, p, e, ok, r => by
    cases p with
    | cons h1 h2 =>
      rename_i q kvs
      obtain ⟨a, x⟩ := q
      cases ks with
      | nil => simp at e
      | cons k ks =>
        simp only [List.map_cons, List.cons.injEq] at e
        obtain ⟨e1, e2⟩ := e
        cases vs with
        | nil => exact absurd (show (x :: kvs.map (·.2) : List V) = [] from r) (by simp)
        | cons v vs =>
          obtain ⟨z, t', e3, r1, r2⟩ := r
          simp only [List.map_cons, List.cons.injEq] at e3
          obtain ⟨rfl, rfl⟩ := e3
          have ih := pair2_rel h2 e2 (fun k hk => ok k (List.mem_cons_of_mem _ hk)) r2
          refine ⟨.ref t, _, rfl, ⟨t, [kV a, x], rfl, .inl (.inl h1), kV a, [x], rfl, ?_, x, [], rfl, r1, rfl⟩, ih⟩
          subst e1
          have := ok k List.mem_cons_self
          cases k with
          | i i => rfl
          | s s => exact ⟨rfl, this⟩
/-- list(a.items()) -/
theorem Pitems {p apos cpos : Pos} (hc : X.calm = true) (hz : fz = true) (hg : Gl X "list") (hm : X.mg "list" = none) (ho : base_ok a = true) (hline : (apos.endLine == cpos.line) = true) (ha : PE X a (tM X.K W fz ma)) :
    PE X (.Call (.Name "list" p) [.Call (.Attribute a "items" apos) [] [] cpos] [] pos) (tM X.K W fz (mBi .items ma)) := by
  refine PEi (LiI.pe_listItems hc ha hg hm (by first | exact boot_list | rfl | decide +kernel) (base_of ho) hline rfl) fun σ H Q ⟨N, ρ, env, h, se, nf, q⟩ => tM_bind se nf q fun v h1 ρ1 H1 x e1 se1 nf1 rx q1 => ?_
  cases v with
  | dct ks vs =>
    obtain ⟨d, kvs, rfl, hp, hn, hk, hd, ra⟩ := rx
    refine ⟨d, kvs, rfl, hp.1 (nf1 hz d), fun H' l ts k1 k2 k3 k4 k5 k6 => ?_⟩
    have rh := se1.rh
    have ex : Ext X.K ρ1 H1 ρ1 H' := ⟨⟨[], by simp⟩, fun a q => .inl q, fun a o q _ _ => k1 a o q, fun a ps q => ⟨#[], by rw [k1 a _ q]; simp⟩, fun p ys q => by
      rcases q with (q | ⟨o, q⟩) | q
      · exact .inl (.inl (k1 _ _ q))
      · exact .inl (.inr ⟨o, k1 _ _ q⟩)
      · exact .inr q, fun a m => by
      obtain ⟨ys, q⟩ := rh.shr a m
      exact ⟨_, k1 _ _ q⟩, fun _ t => tabS_of t fun b o z _ => k1 b o z⟩
    have rh' : RH X.K N ρ1 H' h1 := ⟨rh.len, rh.nd, fun n a xs e1 e2 => by
      obtain ⟨ys, q1, q2⟩ := rh.obj n a xs e1 e2
      exact ⟨ys, k1 _ _ q1, RVs.mono ex Nle.rfl q2⟩, fun a q => by
      obtain ⟨o, z⟩ := rh.trk a q
      exact ⟨o, k1 _ _ z⟩⟩
    refine q1 ρ1 H' ex rh' (.ref l) ⟨l, ts.map V.ref, rfl, k5, rh.nin k2, pair2_rel k6 hk hd.2 (RVs.mono ex Nle.rfl ra)⟩
  | _ => exact (show False from q1).elim
/-! ### own slots -/
def mLenO (i : Nat) : M := fun env h => (match env[i]? with
    | some (some (.oL xs)) => .ok (.int xs.length) h
    | some (some (.oD ks _)) => .ok (.int ks.length) h
    | _ => .bad)
theorem PlenO {i : Nat} {x f : Str} {p p2 : Pos} (hN : X.N[i]? = some x) (hv : Vis X.env.scope x) (hd : (x == ("__debug__" : Str)) = false) (hcd : (x == ("__classdict__" : Str)) = false)
    (hg : Gl X f) (hm : X.mg f = none) (hb : bootBuiltins f = some (.builtin "len")) (hn : f ≠ "__name__") (hdb : (f == ("__debug__" : Str)) = false) : PE X (.Call (.Name f p) [.Name x p2] [] pos) (tM X.K W fz (mLenO i)) := by
  refine PEi (pe_callB (call_len_seq.or (fun pins s σ H xs us Q I r (hh : ∃ a kvs, xs = [V.ref a] ∧ Rd H a (.dK kvs) ∧ Q (.int kvs.length) H) => by
      obtain ⟨a, kvs, rfl, ha, q⟩ := hh
      obtain ⟨u, rfl, ru⟩ := vals1 r
      cases ru
      exact d_len I ha fun t s' I' => ⟨.int kvs.length, H, I', ⟨t, rfl⟩, q⟩)) hg hm hb (pa_cons (pe_var hN hv hd hcd) pa_nil) hn hdb rfl rfl) fun σ H Q ⟨N, ρ, env, h, se, nf, q⟩ => ?_
  unfold mLenO at q
  split at q
  · rename_i xs hx
    obtain ⟨a, ys, h1, h2, h3, h4⟩ := se.ol i xs hx
    have hl := h4.length
    rw [hl] at q
    exact ⟨_, h1, .inl ⟨a, ys, rfl, .inl (.of h2), og_val q se.rh rfl⟩⟩
  · rename_i ks vs hx
    obtain ⟨a, kvs, h1, h2, h3, h4, h5, h6⟩ := se.od i ks vs hx
    have hl : ks.length = kvs.length := by
      have := congrArg List.length h4
      simpa using this.symm
    rw [hl] at q
    exact ⟨_, h1, .inr ⟨a, kvs, rfl, h2.2, og_val q se.rh rfl⟩⟩
  · exact (show False from q).elim
def mIdxO (i : Nat) (m : M) : M := fun env h => (match env[i]? with
    | some (some (.oL xs)) => (m env h).bind fun y h => (match y with
      | .int j => (match atX xs j with
        | some v => .ok v h
        | none => .bad)
      | _ => .bad)
    | _ => .bad)
theorem PidxO {i : Nat} {x : Str} {p2 : Pos} (hN : X.N[i]? = some x) (hv : Vis X.env.scope x) (hd : (x == ("__debug__" : Str)) = false) (hcd : (x == ("__classdict__" : Str)) = false) (hs : PlainIx b) (hb : PE X b (tM X.K W fz mb)) :
    PE X (.Subscript (.Name x p2) b pos) (tM X.K W fz (mIdxO i mb)) := by
  refine PEi (pe_ix ix_seq (pe_var hN hv hd hcd) hb hs) fun σ H Q ⟨N, ρ, env, h, se, nf, q⟩ => ?_
  unfold mIdxO at q
  split at q
  · rename_i xs hx
    obtain ⟨a, ys, h1, h2, h3, h4⟩ := se.ol i xs hx
    refine ⟨_, h1, tM_bind se nf q fun w h2 ρ2 H2 y e2 se2 nf2 ry q2 => ?_⟩
    obtain ⟨a', ys', g1, g2, g3, g4⟩ := se2.ol i xs hx
    rw [h1] at g1
    cases g1
    split at q2
    · rename_i j
      cases (show y = _ from ry)
      split at q2
      · rename_i v hv
        obtain ⟨z, z1, z2⟩ := atX_rel g4 hv
        exact .inl ⟨a, ys', j, z, rfl, rfl, .of g2, z1, og_val q2 se2.rh z2⟩
      · exact (show False from q2).elim
    · exact (show False from q2).elim
  · exact (show False from q).elim
def mInO (m : M) (i : Nat) (neg : Bool) : M := fun env h => (match env[i]? with
    | some (some (.oD ks _)) => (m env h).bind fun y h => (match keyOf y with
      | some k => okB (if neg then !decide (k ∈ ks) else decide (k ∈ ks)) h
      | none => .bad)
    | _ => .bad)
def rInD2 (neg : Bool) : R2 := fun x y H Q => ∃ a o, y = .ref a ∧ DGet H a x o ∧ Q (.bl (if neg then !o.isSome else o.isSome)) H
theorem op_inD2 (hu : X.A.units + 1 < cLine) : OpR X (compareOp .In) (rInD2 false) := by
  intro pins s σ H x y vx vy Q I rx ry hh
  obtain ⟨a, o, rfl, g, q⟩ := hh
  cases ry
  exact d_in hu I g rx fun s' I' => ⟨.bl o.isSome, H, I', rfl, q⟩
theorem op_notInD2 (hu : X.A.units + 1 < cLine) : OpR X (compareOp .NotIn) (rInD2 true) := by
  intro pins s σ H x y vx vy Q I rx ry hh
  obtain ⟨a, o, rfl, g, q⟩ := hh
  cases ry
  exact d_notIn hu I g rx fun s' I' => ⟨.bl (!o.isSome), H, I', rfl, q⟩
theorem inO_core {i : Nat} {neg : Bool} {σ : L2.St} {H : Hp} {Q : VK} {N : Nz} {ρ : List Addr} {env : Ev.Env} {h : Hh} (se : SE X.K N ρ env h σ H) (nf : fz = true → ∀ p, ¬ N.z p) (q : og X.K W N ρ H (mInO ma i neg env h) (gv X.K N Q)) :
    tOp (rInD2 neg) (tM X.K W fz ma) (tVar i) σ H Q := by
  unfold mInO at q
  split at q
  · rename_i ks vs hx
    refine tM_bind se nf q fun w h2 ρ2 H2 y e2 se2 nf2 ry q2 => ?_
    obtain ⟨a, kvs, g1, g2, g3, g4, g5, g6⟩ := se2.od i ks vs hx
    split at q2
    · rename_i k ek
      have := rv_key ry ek
      subst this
      obtain ⟨o, g, ho⟩ := dgetV (q := k) g2.2 g4 g6
      refine ⟨_, g1, a, o, rfl, g, ?_⟩
      have e3 : o.isSome = decide (k ∈ ks) := by
        rw [← dget_mem (dct_len g4 g6)]
        cases hg : dget ks vs k with
        | none => rw [hg] at ho; rw [ho]; rfl
        | some u =>
          rw [hg] at ho
          obtain ⟨x', e', _⟩ := ho
          rw [e']; rfl
      rw [e3]
      exact og_val q2 se2.rh rfl
    · exact (show False from q2).elim
  · exact (show False from q).elim
theorem PinO {i : Nat} {x : Str} {p2 : Pos} (hu : X.A.units + 1 < cLine) (hN : X.N[i]? = some x) (hv : Vis X.env.scope x) (hd : (x == ("__debug__" : Str)) = false) (hcd : (x == ("__classdict__" : Str)) = false) (ha : PE X a (tM X.K W fz ma)) :
    PE X (.Compare a [.In] [.Name x p2] pos) (tM X.K W fz (mInO ma i false)) :=
  PEi (pe_cmpR (op_inD2 hu) ha (pe_var hN hv hd hcd) rfl) fun σ H Q ⟨N, ρ, env, h, se, nf, q⟩ => inO_core se nf q
theorem PnotinO {i : Nat} {x : Str} {p2 : Pos} (hu : X.A.units + 1 < cLine) (hN : X.N[i]? = some x) (hv : Vis X.env.scope x) (hd : (x == ("__debug__" : Str)) = false) (hcd : (x == ("__classdict__" : Str)) = false) (ha : PE X a (tM X.K W fz ma)) :
    PE X (.Compare a [.NotIn] [.Name x p2] pos) (tM X.K W fz (mInO ma i true)) :=
  PEi (pe_cmpR (op_notInD2 hu) ha (pe_var hN hv hd hcd) rfl) fun σ H Q ⟨N, ρ, env, h, se, nf, q⟩ => inO_core se nf q
theorem TinO {i : Nat} {x : Str} {p2 : Pos} (hu : X.A.units + 1 < cLine) (hN : X.N[i]? = some x) (hv : Vis X.env.scope x) (hd : (x == ("__debug__" : Str)) = false) (hcd : (x == ("__classdict__" : Str)) = false) (ha : PE X a (tM X.K W fz ma)) :
    PT X (.Compare a [.In] [.Name x p2] pos) (tT X.K W fz (mInO ma i false)) :=
  PTi (pt_cmpR (op_inD2 hu) ha (pe_var hN hv hd hcd) rfl) fun σ H Q ⟨N, ρ, env, h, se, nf, q⟩ => inO_core se nf (gT_gv q)
theorem TnotinO {i : Nat} {x : Str} {p2 : Pos} (hu : X.A.units + 1 < cLine) (hN : X.N[i]? = some x) (hv : Vis X.env.scope x) (hd : (x == ("__debug__" : Str)) = false) (hcd : (x == ("__classdict__" : Str)) = false) (ha : PE X a (tM X.K W fz ma)) :
    PT X (.Compare a [.NotIn] [.Name x p2] pos) (tT X.K W fz (mInO ma i true)) :=
  PTi (pt_cmpR (op_notInD2 hu) ha (pe_var hN hv hd hcd) rfl) fun σ H Q ⟨N, ρ, env, h, se, nf, q⟩ => inO_core se nf (gT_gv q)

/-! ### what is fresh -/
/-- a list or dict that was made since H0, and nobody else has -/
def FV (K : PySem.W.Frag) (N : Nz) (H0 : Hp) (ρ : List Addr) (H : Hp) (h : Hh) : EV → V → Prop
  | .lst xs, x => ∃ a ys, x = .ref a ∧ H0 a = none ∧ H a = some (.lst ys) ∧ a ∉ ρ ∧ RVs K ⟨fun b => N.a b ∨ b = a, N.z⟩ ρ H xs ys ∧ RH K ⟨fun b => N.a b ∨ b = a, N.z⟩ ρ H h
  | .dct ks vs, x => ∃ a kvs, x = .ref a ∧ H0 a = none ∧ H a = some (.dK kvs) ∧ a ∉ ρ ∧ kvs.map (·.1) = ks.map toK ∧ KOk ks ∧ RVs K ⟨fun b => N.a b ∨ b = a, N.z⟩ ρ H vs (kvs.map (·.2)) ∧ RH K ⟨fun b => N.a b ∨ b = a, N.z⟩ ρ H h
  | _, _ => False
abbrev gF (K : PySem.W.Frag) (N : Nz) (H0 : Hp) (Q : VK) : EV → Hh → List Addr → Hp → Prop := fun v h' ρ' H' => ∀ x, FV K N H0 ρ' H' h' v x → Q x H'
def tF (K : PySem.W.Frag) (W : Nat → Hp → Prop) (fz : Bool) (m : M) : TE := fun σ H Q => ∃ N ρ env h, SE K N ρ env h σ H ∧ (fz = true → ∀ p, ¬ N.z p) ∧ og K W N ρ H (m env h) (gF K N H Q)
theorem none_back {K : PySem.W.Frag} {ρ ρ1 : List Addr} {H H1 : Hp} (e : Ext K ρ H ρ1 H1) {p : Addr} (hp : H1 p = none) : H p = none := by
  cases q : H p with
  | none => rfl
  | some o =>
    obtain ⟨u, hu⟩ := e.trk q
    rw [hp] at hu; cases hu
theorem Nle.new {N : Nz} {H : Hp} {p : Addr} (hp : H p = none) : Nle ⟨fun b => N.a b ∨ b = p, N.z⟩ N H := ⟨fun b q => by
  rcases q with q | q
  · exact .inl q
  · subst q; exact .inr hp, fun _ z => z⟩
theorem RH.newN {K : PySem.W.Frag} {N : Nz} {ρ : List Addr} {H : Hp} {h : Hh} {D : Addr} {o : HO} (r : RH K N ρ H h) (hD : H D = none) : RH K ⟨fun b => N.a b ∨ b = D, N.z⟩ ρ (upd H D o) h where
  len := r.len
  nd := r.nd
  obj := fun n a xs e1 e2 => by
    obtain ⟨ys, h1, h2⟩ := r.obj n a xs e1 e2
    exact ⟨ys, by rw [upd_ne (ne_of_none h1 hD)]; exact h1, RVs.mono (r.newX hD) (.new hD) h2⟩
  trk := fun b q => by
    by_cases e : b = D
    · subst e; exact ⟨_, upd_same⟩
    · obtain ⟨u, z⟩ := r.trk b (q.resolve_right e)
      exact ⟨u, by rw [upd_ne e]; exact z⟩
theorem FV.newL {K : PySem.W.Frag} {N : Nz} {ρ : List Addr} {H H0 : Hp} {h : Hh} {xs : List EV} {ys : List V} {p : Addr} (rh : RH K N ρ H h) (hp : H p = none) (h0 : H0 p = none) (r : RVs K N ρ H xs ys) : FV K N H0 ρ (upd H p (.lst ys)) h (.lst xs) (.ref p) :=
  ⟨p, ys, rfl, h0, upd_same, (rh.nin hp).2, RVs.mono (rh.newX hp) (.new hp) r, rh.newN hp⟩
theorem FV.newD {K : PySem.W.Frag} {N : Nz} {ρ : List Addr} {H H0 : Hp} {h : Hh} {ks : List K0} {vs : List EV} {kvs : List (Key × V)} {p : Addr} (rh : RH K N ρ H h) (hp : H p = none) (h0 : H0 p = none) (hk : kvs.map (·.1) = ks.map toK) (ok : KOk ks) (r : RVs K N ρ H vs (kvs.map (·.2))) :
    FV K N H0 ρ (upd H p (.dK kvs)) h (.dct ks vs) (.ref p) := ⟨p, kvs, rfl, h0, upd_same, (rh.nin hp).2, hk, ok, RVs.mono (rh.newX hp) (.new hp) r, rh.newN hp⟩
theorem Flst (h : PA X es (tMs X.K W fz ms)) : PE X (.List es pos) (tF X.K W fz (mLst ms)) :=
  PEi (pe_lst h) fun σ H Q ⟨N, ρ, env, h, se, nf, q⟩ => tMs_bind se nf q fun vs h1 ρ1 H1 xs e1 se1 nf1 rs q1 => by
    have hl := rs.length
    split at q1
    · rename_i hz
      exact ⟨by rw [L_eq]; omega, fun p hp => q1 ρ1 _ (se1.rh.newX hp) (se1.rh.new hp) _ (.newL se1.rh hp (none_back e1 hp) rs)⟩
    · exact (show False from q1).elim
theorem Fdnew : PE X (.Dict [] [] pos) (tF X.K W fz fun _ h => .ok (.dct [] []) h) :=
  PEi pe_dnewK fun σ H Q ⟨N, ρ, env, h, se, nf, q⟩ => fun p hp => q ρ _ (se.rh.newX hp) (se.rh.new hp) _ (.newD se.rh hp hp rfl ⟨List.nodup_nil, fun k hk => by simp at hk⟩ rfl)
/-- list + list -/
theorem Fadd (ha : PE X a (tM X.K W fz ma)) (hb : PE X b (tM X.K W fz mb)) : PE X (.BinOp a .Add b pos) (tF X.K W fz fun env h => (ma env h).bind fun x h => (mb env h).bind fun y h => (match x, y with
    | .lst _, .lst _ => opAdd x y h
    | _, _ => .bad)) :=
  PEi (pe_op op_cat ha hb) fun σ H Q ⟨N, ρ, env, h, se, nf, q⟩ => tM_bind se nf q fun v h1 ρ1 H1 x e1 se1 nf1 rx q1 => tM_bind se1 nf1 q1 fun w h2 ρ2 H2 y e2 se2 nf2 ry q2 => by
    have rx2 := RV.mono (N' := N) e2 Nle.rfl rx
    cases v with
    | lst xs => cases w with
      | lst ys =>
        obtain ⟨p, us, rfl, hp, _, r1⟩ := rx2
        obtain ⟨p', ws, rfl, hp', _, r2⟩ := ry
        simp only [opAdd] at q2
        split at q2
        · rename_i hl
          have l1 := r1.length
          have l2 := r2.length
          refine ⟨p, p', us, ws, rfl, rfl, hp, hp', by rw [L_eq]; omega, fun d hd => q2 ρ2 _ (se2.rh.newX hd) (se2.rh.new hd) _ (.newL se2.rh hd (none_back e1 (none_back e2 hd)) (r1.append r2))⟩
        · exact (show False from q2).elim
      | _ => exact (show False from q2).elim
    | _ => exact (show False from q2).elim
/-- dict(d), dict(pairs) -/
theorem Fdict {x : Str} {p : Pos} (hcm : X.calm = true) (hg : Gl X x) (hm : X.mg x = none) (hv : bootBuiltins x = some (.type "dict")) (hn : x ≠ "__name__") (hdb : (x == ("__debug__" : Str)) = false) (na : ns a = true) (ha : PE X a (tM X.K W fz ma)) :
    PE X (.Call (.Name x p) [a] [] pos) (tF X.K W fz (mBi .dict ma)) := by
  have hc : CallR X (.type "dict") (fun xs H Q => ∃ a kvs, xs = [V.ref a] ∧ Rd H a (.dK kvs) ∧ ∀ p, H p = none → Q (.ref p) (upd H p (.dK kvs))) := by
    intro pins s σ H xs us Q I r hh
    obtain ⟨a, kvs, rfl, hp, q⟩ := hh
    obtain ⟨u, rfl, ru⟩ := vals1 r
    cases ru
    exact d_copyOf I hp fun d s' hd' I' => ⟨.ref d, _, I', rfl, q d hd'⟩
  refine PEi (pe_callTy (hc.or (call_dictP hcm)) hg hm hv (pa_cons ha pa_nil (star_cons na)) hn hdb (star_cons na) rfl) fun σ H Q ⟨N, ρ, env, h, se, nf, q⟩ => tM_bind se nf q fun v h1 ρ1 H1 y e1 se1 nf1 ry q1 => ?_
  cases v with
  | dct ks vs =>
    obtain ⟨d, kvs, rfl, hp, hn, hk, hd, ra⟩ := ry
    exact .inl ⟨d, kvs, rfl, hp.2, fun p hp => q1 ρ1 _ (se1.rh.newX hp) (se1.rh.new hp) _ (.newD se1.rh hp (none_back e1 hp) hk hd ra)⟩
  | lst vs =>
    obtain ⟨l, ys, rfl, hp, _, ra⟩ := ry
    simp only [runBi] at q1
    split at q1
    · rename_i ks' vs' e
      obtain ⟨ps, more, rfl, a1, a2, a3, a4⟩ := dictOf_rel (kvs := []) e ra ⟨List.nodup_nil, fun k hk => by simp at hk⟩ rfl rfl
      exact .inr ⟨l, ps, more, rfl, .of hp, a1, fun d hd => q1 ρ1 _ (se1.rh.newX hd) (se1.rh.new hd) _ (.newD se1.rh hd (none_back e1 hd) a2 a3 a4)⟩
    · exact (show False from q1).elim
  | _ => exact (show False from q1).elim
end
end EvS
end
section
set_option Elab.async false
set_option linter.all false
set_option maxRecDepth 100000
set_option maxHeartbeats 1000000
/-! EvU: what a def promises; calls. -/
namespace EvS
open PySem PySem.Spec PyProof.Rows L2 Ev
/-- behind a call: the value (fresh, where the def makes it), the shared lists, the exception -/
def ogC (K : PySem.W.Frag) (cls : Nat → Value) (N : Nz) (ρ : List Addr) (H : Hp) (fr : Bool) (r : Res EV) (Q : VK) (E : XK) : Prop :=
  match r with
  | .ok v h' => ∀ ρ' H' x, Ext K ρ H ρ' H' → RH K N ρ' H' h' → RV K N ρ' H' v x → (fr = true → FV K N H ρ' H' h' v x) → Q x H'
  | .exc c h' => ∀ ρ' H', Ext K ρ H ρ' H' → RH K N ρ' H' h' → E (cls c) none H'
  | .bad => False
/-- the promise of a def whose calls the evaluator tells by f -/
def spE (K : PySem.W.Frag) (cls : Nat → Value) (np : Nat) (fr : Bool) (f : List EV → Hh → Res EV) : Sp := fun vs H Q E => vs.length = np ∧ ∃ N ρ h args, (∀ p, ¬ N.z p) ∧ RH K N ρ H h ∧ RVs K N ρ H args vs ∧ ogC K cls N ρ H fr (f args h) Q E
/-- the wish about exceptions -/
def wx (cls : Nat → Value) (W : Nat → Hp → Prop) : WX := fun c d _ H => ∃ k, c = cls k ∧ d = none ∧ W k H
section
variable {X : Cx} {W : Nat → Hp → Prop} {cls : Nat → Value} {fz : Bool} {a b c : Expr} {es : List Expr} {ma mb mc : M} {ms : MN} {pos : Pos}
theorem Pcall {k : Nat} {f : Addr} {fd : FuncData} {ps : List Str} {np : Nat} {fr : Bool} {F : List EV → Hh → Res EV} {x : Str} {p : Pos} (hF : FnOk X.prog X.w X.K X.mg X.base (L2.CX X.prog X.w) k f fd ps (spE X.K cls np fr F)) (hr : Room k X.A) (hg : Gl X x) (hm : X.mg x = some (.ref f))
    (hk : PySem.W.keepIn X.K (.ref f) = true) (hb : Binds X.K fd ps []) (tk : Takes X (wx cls W)) (hdb : (x == ("__debug__" : Str)) = false) (hz : fz = true) (hn : (a :: es).all ns = true) (hl : (a :: es).length = np)
    (hlen : ∀ σ H Q, tMs X.K W fz ms σ H Q → tMs X.K W fz ms σ H fun vs H' => vs.length = np ∧ Q vs H')
    (ha : PA X (a :: es) (tMs X.K W fz ms)) : PE X (.Call (.Name x p) (a :: es) [] pos) (tM X.K W fz (mCall F ms)) := by
  have hn' : ns a = true ∧ es.all ns = true := by rw [List.all_cons, Bool.and_eq_true] at hn; exact hn
  refine PEi (pe_callS hF hr hg hm hk hb (fun σ => passAt tk σ) ha hdb (star_cons hn'.1) (star_plain hn'.2).1) fun σ H Q ⟨N, ρ, env, h, se, nf, q⟩ => ?_
  have t : tMs X.K W fz ms σ H fun vs H1 => ∃ N ρ h args, (∀ p, ¬ N.z p) ∧ RH X.K N ρ H1 h ∧ RVs X.K N ρ H1 args vs ∧ ogC X.K cls N ρ H1 fr (F args h) Q (WE (wx cls W) σ) := by
    refine tMs_bind se nf q fun vs h1 ρ1 H1 xs e1 se1 nf1 rs q1 => ⟨N, ρ1, h1, vs, nf hz, se1.rh, rs, ?_⟩
    cases e : F vs h1 with
    | ok v h2 =>
      rw [e] at q1
      exact fun ρ' H' y ex rh ry _ => q1 ρ' H' ex rh y ry
    | exc c h2 =>
      rw [e] at q1
      exact fun ρ' H' ex rh => ⟨c, rfl, rfl, q1 ρ' H' ex rh⟩
    | bad =>
      rw [e] at q1
      exact (show False from q1).elim
  exact hlen σ H _ t
theorem Fcall {k : Nat} {f : Addr} {fd : FuncData} {ps : List Str} {np : Nat} {F : List EV → Hh → Res EV} {x : Str} {p : Pos} (hF : FnOk X.prog X.w X.K X.mg X.base (L2.CX X.prog X.w) k f fd ps (spE X.K cls np true F)) (hr : Room k X.A) (hg : Gl X x) (hm : X.mg x = some (.ref f))
    (hk : PySem.W.keepIn X.K (.ref f) = true) (hb : Binds X.K fd ps []) (tk : Takes X (wx cls W)) (hdb : (x == ("__debug__" : Str)) = false) (hz : fz = true) (hn : (a :: es).all ns = true)
    (hlen : ∀ σ H Q, tMs X.K W fz ms σ H Q → tMs X.K W fz ms σ H fun vs H' => vs.length = np ∧ Q vs H')
    (ha : PA X (a :: es) (tMs X.K W fz ms)) : PE X (.Call (.Name x p) (a :: es) [] pos) (tF X.K W fz (mCall F ms)) := by
  have hn' : ns a = true ∧ es.all ns = true := by rw [List.all_cons, Bool.and_eq_true] at hn; exact hn
  refine PEi (pe_callS hF hr hg hm hk hb (fun σ => passAt tk σ) ha hdb (star_cons hn'.1) (star_plain hn'.2).1) fun σ H Q ⟨N, ρ, env, h, se, nf, q⟩ => ?_
  have t : tMs X.K W fz ms σ H fun vs H1 => ∃ N ρ h args, (∀ p, ¬ N.z p) ∧ RH X.K N ρ H1 h ∧ RVs X.K N ρ H1 args vs ∧ ogC X.K cls N ρ H1 true (F args h) Q (WE (wx cls W) σ) := by
    refine tMs_bind se nf q fun vs h1 ρ1 H1 xs e1 se1 nf1 rs q1 => ⟨N, ρ1, h1, vs, nf hz, se1.rh, rs, ?_⟩
    cases e : F vs h1 with
    | ok v h2 =>
      rw [e] at q1
      refine fun ρ' H' y ex rh _ fv => q1 ρ' H' ex rh y ?_
      have fv := fv rfl
      cases v with
      | lst vs => obtain ⟨a, ys, b1, b2, b3⟩ := fv; exact ⟨a, ys, b1, none_back e1 b2, b3⟩
      | dct ks vs => obtain ⟨a, ys, b1, b2, b3⟩ := fv; exact ⟨a, ys, b1, none_back e1 b2, b3⟩
      | _ => exact (show False from fv).elim
    | exc c h2 =>
      rw [e] at q1
      exact fun ρ' H' ex rh => ⟨c, rfl, rfl, q1 ρ' H' ex rh⟩
    | bad =>
      rw [e] at q1
      exact (show False from q1).elim
  exact hlen σ H _ t
/-- the number of arguments -/
theorem tMs_len {n : Nat} {m : MN} (hm : ∀ env h vs h', m env h = .ok vs h' → vs.length = n) : ∀ σ H Q, tMs X.K W fz m σ H Q → tMs X.K W fz m σ H fun vs H' => vs.length = n ∧ Q vs H' := fun σ H Q ⟨N, ρ, env, h, se, nf, q⟩ =>
  ⟨N, ρ, env, h, se, nf, og_mono q fun vs h1 ρ1 H1 e ex rh g xs rs => ⟨by rw [← rs.length]; exact hm _ _ _ _ e, g xs rs⟩⟩
theorem len_cons {n : Nat} {m : M} {ms : MN} (hm : ∀ env h vs h', ms env h = .ok vs h' → vs.length = n) : ∀ env h vs h', mCons m ms env h = .ok vs h' → vs.length = n + 1 := fun env h vs h' e => by
  unfold mCons at e
  cases e1 : m env h with
  | ok x h1 =>
    rw [e1] at e
    simp only [Res.bind_ok] at e
    cases e2 : ms env h1 with
    | ok xs h2 =>
      rw [e2] at e
      simp only [Res.bind_ok] at e
      cases e
      rw [List.length_cons, hm _ _ _ _ e2]
    | exc c h2 => rw [e2] at e; cases e
    | bad => rw [e2] at e; cases e
  | exc c h1 => rw [e1] at e; cases e
  | bad => rw [e1] at e; cases e
end
end EvS
end
section
set_option Elab.async false
set_option linter.all false
set_option maxRecDepth 100000
set_option maxHeartbeats 1000000
/-! EvV: targets; sources. -/
namespace EvS
open PySem PySem.Spec PyProof.Rows L2 Ev
/-! ### targets -/
mutual
def slots : Ev.T → List Nat
  | .nm i => [i]
  | .tup ts => slotss ts
def slotss : List Ev.T → List Nat
  | [] => []
  | t :: ts => slots t ++ slotss ts
end
/-- stores at a target: P is what is known of the slots -/
def gE (K : PySem.W.Frag) (t : Ev.T) : TG := fun x σ H Q => ∃ (N : Nz) (ρ : List Addr) (P : Ev.Env → L2.St → Prop) (v : EV) (env env' : Ev.Env), P env σ ∧ RV K N ρ H v x ∧ t.put v env = some env' ∧
  (∀ e s i w y, i ∈ slots t → P e s → RV K N ρ H w y → P (e.set i (some (.val w))) (s.set i (some y))) ∧ ∀ σ', P env' σ' → Q σ' H
def gEs (K : PySem.W.Frag) (ts : List Ev.T) : TGs := fun xs σ H Q => ∃ (N : Nz) (ρ : List Addr) (P : Ev.Env → L2.St → Prop) (vs : List EV) (env env' : Ev.Env), P env σ ∧ RVs K N ρ H vs xs ∧ puts ts vs env = some env' ∧
  (∀ e s i w y, i ∈ slotss ts → P e s → RV K N ρ H w y → P (e.set i (some (.val w))) (s.set i (some y))) ∧ ∀ σ', P env' σ' → Q σ' H
theorem PGi {X : Cx} {tg : Expr} {t t' : TG} (h : PG X tg t) (i : ∀ v σ H Q, t' v σ H Q → t v σ H Q) : PG X tg t' := ⟨fun pins s σ H v u Q I r q => h.run pins s σ H v u Q I r (i v σ H Q q)⟩
theorem PGsi {X : Cx} {tg : List Expr} {t t' : TGs} (h : PGs X tg t) (i : ∀ v σ H Q, t' v σ H Q → t v σ H Q) : PGs X tg t' := ⟨fun pins s σ H v u Q I r q => h.run pins s σ H v u Q I r (i v σ H Q q)⟩
section
variable {X : Cx} {pos : Pos}
theorem Gname {i : Nat} {x : Str} (hN : X.N.Nodup) (hi : X.N[i]? = some x) (hx : Loc X.env.scope x) (hf : X.fn x = true ∨ X.env.scope.names.lookup x = some .local) : PG X (.Name x pos) (gE X.K (.nm i)) :=
  PGi (pg_name hN hi hx hf) fun x σ H Q ⟨N, ρ, P, v, env, env', p, r, e, c, q⟩ => by
    have e : some (env.set i (some (SV.val v))) = some env' := e
    cases e
    exact q _ (c env σ i v x (by simp [slots]) p r)
theorem Gnil : PGs X [] (gEs X.K []) := PGsi pgs_nil fun xs σ H Q ⟨N, ρ, P, vs, env, env', p, r, e, c, q⟩ => by
  cases vs with
  | nil =>
    cases (show xs = [] from r)
    cases e
    exact ⟨rfl, q _ p⟩
  | cons v vs => cases e
theorem as_cons {e : Expr} {es : List Expr} {env : PySem.Env} (h : ns e = true) : assignEach (e :: es) env = (false, assign e env) :: assignEach es env := by
  cases e <;> first | rfl | exact absurd h (by simp [ns])
theorem as_len {env : PySem.Env} : ∀ {es : List Expr}, es.all ns = true → (assignEach es env).length = es.length ∧ (assignEach es env).findIdx? (·.1) = none
  | [], _ => ⟨rfl, rfl⟩
  | e :: es, h => by
    rw [List.all_cons, Bool.and_eq_true] at h
    obtain ⟨h1, h2⟩ := as_len (env := env) h.2
    rw [as_cons h.1]
    refine ⟨by rw [List.length_cons, List.length_cons, h1], ?_⟩
    rw [List.findIdx?_cons, h2]
    rfl
theorem Gcons {e : Expr} {es : List Expr} {t : Ev.T} {ts : List Ev.T} (hn : ns e = true) (h1 : PG X e (gE X.K t)) (h2 : PGs X es (gEs X.K ts)) : PGs X (e :: es) (gEs X.K (t :: ts)) :=
  PGsi (pgs_cons h1 h2 (by rw [as_cons hn]; rfl)) fun xs σ H Q ⟨N, ρ, P, vs, env, env', p, r, e, c, q⟩ => by
    cases vs with
    | nil => cases e
    | cons v vs =>
      obtain ⟨y, ys, rfl, r1, r2⟩ := r
      have e : (match t.put v env with | some e => puts ts vs e | none => none) = some env' := e
      split at e
      · rename_i env1 e1
        refine ⟨y, ys, rfl, N, ρ, P, v, env, env1, p, r1, e1, fun a b i w z hi => c a b i w z (List.mem_append_left _ hi), fun σ1 p1 => ?_⟩
        exact ⟨N, ρ, P, vs, env1, env', p1, r2, e, fun a b i w z hi => c a b i w z (List.mem_append_right _ hi), q⟩
      · cases e
theorem puts_len : ∀ {ts : List Ev.T} {vs : List EV} {env env' : Ev.Env}, puts ts vs env = some env' → ts.length = vs.length
  | [], [], _, _, _ => rfl
  | [], _ :: _, _, _, e => by cases e
  | _ :: _, [], _, _, e => by cases e
  | t :: ts, v :: vs, env, env', e => by
    have e : (match t.put v env with | some e => puts ts vs e | none => none) = some env' := e
    split at e
    · rw [List.length_cons, List.length_cons, puts_len e]
    · cases e
theorem Gtup {es : List Expr} {k : Nat} {ts : List Ev.T} (hc : X.calm = true) (hn : es.all ns = true) (hl : es.length = ts.length) (h : PGs X es (gEs X.K ts)) : PG X (.Tuple es k pos) (gE X.K (.tup ts)) :=
  PGi (pg_tup (n := es.length) hc h (as_len hn).1 (as_len hn).2) fun x σ H Q ⟨N, ρ, P, v, env, env', p, r, e, c, q⟩ => by
    cases v with
    | tup vs =>
      obtain ⟨d, ys, rfl, hd, rs⟩ := r
      have e : puts ts vs env = some env' := e
      exact ⟨d, ys, rfl, hd, by rw [← rs.length, hl, puts_len e], N, ρ, P, vs, env, env', p, rs, e, c, q⟩
    | _ => cases e
end
/-! ### sources -/
/-- a heap without some of the lists and dicts that N avoids -/
def Mk (K : PySem.W.Frag) (N : Nz) (ρ0 : List Addr) (H0 : Hp) (ρ : List Addr) (H : Hp) : Prop := ∃ H1 : Hp, (∀ b, H1 b = H0 b ∨ (H1 b = none ∧ N.a b ∧ ((∃ ys, H0 b = some (.lst ys)) ∨ ∃ kvs, H0 b = some (.dK kvs)))) ∧ Ext K ρ0 H1 ρ H
theorem Mk.of {K : PySem.W.Frag} {N : Nz} {ρ0 ρ : List Addr} {H0 H : Hp} (e : Ext K ρ0 H0 ρ H) : Mk K N ρ0 H0 ρ H := ⟨H0, fun _ => .inl rfl, e⟩
theorem Mk.keep {K : PySem.W.Frag} {N : Nz} {ρ0 ρ : List Addr} {H0 H : Hp} {p : Addr} {o : HO} (m : Mk K N ρ0 H0 ρ H) (hp : H0 p = some o) (na : ¬ N.a p) (np : p ∉ ρ0) (nt : NotTbl o) : H p = some o := by
  obtain ⟨H1, c, e⟩ := m
  rcases c p with c | ⟨_, c, _⟩
  · exact e.keep p o (by rw [c]; exact hp) np nt
  · exact (na c).elim
theorem Mk.keepO {K : PySem.W.Frag} {N : Nz} {ρ0 ρ : List Addr} {H0 H : Hp} {p : Addr} {o : HO} (m : Mk K N ρ0 H0 ρ H) (hp : H0 p = some o) (hl : ∀ ys, o ≠ .lst ys) (hd : ∀ kvs, o ≠ .dK kvs) (np : p ∉ ρ0) (nt : NotTbl o) : H p = some o := by
  obtain ⟨H1, c, e⟩ := m
  rcases c p with c | ⟨_, _, ⟨ys, c⟩ | ⟨ys, c⟩⟩
  · exact e.keep p o (by rw [c]; exact hp) np nt
  · rw [hp] at c; cases c; exact (hl _ rfl).elim
  · rw [hp] at c; cases c; exact (hd _ rfl).elim
theorem Mk.tups {K : PySem.W.Frag} {N : Nz} {ρ0 ρ : List Addr} {H0 H : Hp} {p : Addr} {ys : List V} (m : Mk K N ρ0 H0 ρ H) (hp : SqT K H0 p ys) : SqT K H p ys := by
  obtain ⟨H1, c, e⟩ := m
  refine e.tups p ys ?_
  rcases hp with hp | hp
  · rcases c p with c | ⟨_, _, ⟨zs, c⟩ | ⟨zs, c⟩⟩
    · rcases hp with hp | ⟨o, hp⟩
      · exact .inl (.inl (by rw [c]; exact hp))
      · exact .inl (.inr ⟨o, by rw [c]; exact hp⟩)
    · rcases hp with hp | ⟨o, hp⟩ <;> rw [hp] at c <;> cases c
    · rcases hp with hp | ⟨o, hp⟩ <;> rw [hp] at c <;> cases c
  · exact .inr hp
theorem Mk.keepR {K : PySem.W.Frag} {N : Nz} {ρ0 ρ : List Addr} {H0 H : Hp} {p : Addr} {o : HO} (m : Mk K N ρ0 H0 ρ H) (hp : Rd H0 p o) (na : ¬ N.a p) (np : p ∉ ρ0) (nt : NotTbl o) : Rd H p o := by
  rcases hp with hp | ⟨b, hp⟩
  · exact .inl (m.keep hp na np nt)
  · exact .inr ⟨b, m.keep hp na np trivial⟩
/-- J walks over the items xs from (ρ0, H0) on; L: the values that it holds -/
def Sok (K : PySem.W.Frag) (N : Nz) (ρ0 : List Addr) (H0 : Hp) (xs : List EV) (J : It) : Prop := ∃ G Y, ∃ L : List (EV × V), Walk J xs.length G Y ∧ (∀ ρ H, Mk K N ρ0 H0 ρ H → G H) ∧ (∀ p ∈ L, RV K N ρ0 H0 p.1 p.2) ∧
  ∀ i ρ H h x H' v N1, RH K N1 ρ H h → (∀ p ∈ L, RV K N1 ρ H p.1 p.2) → Y i H x H' → xs[i]? = some v → Ext K ρ H ρ H' ∧ RH K N1 ρ H' h ∧ RV K N1 ρ H' v x
/-- a source's reading -/
def tI (K : PySem.W.Frag) (W : Nat → Hp → Prop) (fz : Bool) (m : MN) : TI := fun σ H R => ∃ N ρ env h, SE K N ρ env h σ H ∧ (fz = true → ∀ p, ¬ N.z p) ∧ og K W N ρ H (m env h) (fun xs _ ρ' H' => ∀ J, Sok K N ρ' H' xs J → R J H')
section
variable {K : PySem.W.Frag} {N : Nz} {ρ : List Addr} {H : Hp} {h : Hh}
theorem RVs.zip_mem {vs : List EV} {ys : List V} (r : RVs K N ρ H vs ys) : ∀ p ∈ vs.zip ys, RV K N ρ H p.1 p.2 := by
  intro p hp
  obtain ⟨i, hi, e⟩ := List.mem_iff_getElem.mp hp
  have hv : vs[i]? = some p.1 := by
    rw [List.getElem_zip] at e
    rw [List.length_zip] at hi
    rw [← e, List.getElem?_eq_getElem (by omega)]
  have hy : ys[i]? = some p.2 := by
    rw [List.getElem_zip] at e
    rw [List.length_zip] at hi
    rw [← e, List.getElem?_eq_getElem (by omega)]
  obtain ⟨y, h1, h2⟩ := r.get hv
  rw [hy] at h1; cases h1
  exact h2
theorem zip_mem {vs : List EV} {ys : List V} {i : Nat} {v : EV} {y : V} (hv : vs[i]? = some v) (hy : ys[i]? = some y) : (v, y) ∈ vs.zip ys := by
  refine List.mem_of_getElem? (i := i) ?_
  rw [List.getElem?_zip_eq_some]
  exact ⟨hv, hy⟩
theorem Sok.list {vs : List EV} {ys : List V} {p : Addr} (hp : H p = some (.lst ys)) (na : ¬ N.a p) (np : p ∉ ρ) (r : RVs K N ρ H vs ys) : Sok K N ρ H vs (Itl K p) := by
  refine ⟨_, _, vs.zip ys, by rw [r.length]; exact walk_list, fun ρ1 H1 e => SqL.of (e.keep hp na np trivial), r.zip_mem, fun i ρ1 H1 h x H' v N1 rh hL y hv => ?_⟩
  obtain ⟨rfl, hy⟩ := y
  exact ⟨rh.refl, rh, hL _ (zip_mem hv hy)⟩
theorem Sok.fro {vs : List EV} {ys : List V} {p : Addr} (hp : (Rd H p (.lst ys) ∧ ¬ N.a p ∧ p ∉ ρ) ∨ SqL K (fun _ => none) p ys) (r : RVs K N ρ H vs ys) : Sok K N ρ H vs (Itl K p) := by
  refine ⟨_, _, vs.zip ys, by rw [r.length]; exact walk_list, fun ρ1 H1 e => ?_, r.zip_mem, fun i ρ1 H1 h x H' v N1 rh hL y hv => ?_⟩
  · rcases hp with ⟨hp, na, np⟩ | hp
    · exact .inl (e.keepR hp na np trivial)
    · rcases hp with (hp | ⟨o, hp⟩) | hp
      · cases hp
      · cases hp
      · exact .inr hp
  · obtain ⟨rfl, hy⟩ := y
    exact ⟨rh.refl, rh, hL _ (zip_mem hv hy)⟩
theorem Sok.tup {vs : List EV} {ys : List V} {p : Addr} (hp : SqT K H p ys) (r : RVs K N ρ H vs ys) : Sok K N ρ H vs (Itt K p) := by
  refine ⟨_, _, vs.zip ys, by rw [r.length]; exact walk_tup, fun ρ1 H1 e => e.tups hp, r.zip_mem, fun i ρ1 H1 h x H' v N1 rh hL y hv => ?_⟩
  obtain ⟨rfl, hy⟩ := y
  exact ⟨rh.refl, rh, hL _ (zip_mem hv hy)⟩
theorem Sok.str {s : S} (t : txt s = true) : Sok K N ρ H (s.map fun c => .str [c]) (Its (toS s)) := by
  refine ⟨fun _ => True, _, [], by rw [List.length_map]; exact walk_str, fun _ _ _ => trivial, fun p hp => by simp at hp, fun i ρ1 H1 h x H' v N1 rh hL y hv => ?_⟩
  obtain ⟨rfl, c, hc, rfl⟩ := y
  rw [List.getElem?_map] at hv
  obtain ⟨c', hc', rfl⟩ := Option.map_eq_some_iff.mp hv
  have : c = c' := by
    have : s[i]? = some c := by simpa [toS] using hc
    rw [hc'] at this; exact (Option.some.inj this).symm
  subst this
  exact ⟨rh.refl, rh, rfl, txt_one t (List.mem_of_getElem? hc')⟩
theorem rangeF_get : ∀ (n : Nat) (lo : Int) (i : Nat) (v : EV), (rangeF lo n)[i]? = some v → v = .int (lo + i)
  | 0, lo, i, v, h => by simp [rangeF] at h
  | n + 1, lo, 0, v, h => by simp [rangeF] at h; rw [← h]; simp
  | n + 1, lo, i + 1, v, h => by
    have := rangeF_get n (lo + 1) i v (by simpa [rangeF] using h)
    rw [this]
    congr 1
    omega
theorem rangeF_len : ∀ (n : Nat) (lo : Int), (rangeF lo n).length = n
  | 0, _ => rfl
  | n + 1, lo => by rw [rangeF, List.length_cons, rangeF_len]
theorem Sok.range {lo : Int} {n : Nat} : Sok K N ρ H (rangeF lo n) (Itr lo n) := by
  refine ⟨fun _ => True, _, [], by rw [rangeF_len]; exact walk_range, fun _ _ _ => trivial, fun p hp => by simp at hp, fun i ρ1 H1 h x H' v N1 rh hL y hv => ?_⟩
  obtain ⟨rfl, rfl⟩ := y
  rw [rangeF_get n lo i v hv]
  exact ⟨rh.refl, rh, rfl⟩
theorem enumF_get : ∀ (xs : List EV) (k i : Nat) (v : EV), (enumF k xs)[i]? = some v → ∃ w, xs[i]? = some w ∧ v = .tup [.int ((k + i : Nat) : Int), w]
  | [], k, i, v, h => by simp [enumF] at h
  | x :: xs, k, 0, v, h => by simp [enumF] at h; exact ⟨x, rfl, h.symm⟩
  | x :: xs, k, i + 1, v, h => by
    obtain ⟨w, h1, h2⟩ := enumF_get xs (k + 1) i v (by simpa [enumF] using h)
    exact ⟨w, by simpa using h1, by rw [h2]; congr 4; omega⟩
theorem enumF_len : ∀ (xs : List EV) (k : Nat), (enumF k xs).length = xs.length
  | [], _ => rfl
  | x :: xs, k => by rw [enumF, List.length_cons, List.length_cons, enumF_len]
theorem Sok.enum {vs : List EV} {ys : List V} {p : Addr} (hp : H p = some (.lst ys)) (na : ¬ N.a p) (np : p ∉ ρ) (r : RVs K N ρ H vs ys) : Sok K N ρ H (enumF 0 vs) (Ite K p) := by
  refine ⟨_, _, vs.zip ys, by rw [enumF_len, r.length]; exact walk_enum, fun ρ1 H1 e => SqL.of (e.keep hp na np trivial), r.zip_mem, fun i ρ1 H1 h x H' v N1 rh hL y hv => ?_⟩
  obtain ⟨T, a, b, rfl, hT, rfl, ha, hb⟩ := y
  obtain ⟨w, hw, rfl⟩ := enumF_get vs 0 i v hv
  cases ha
  refine ⟨rh.newX hT, rh.new hT, RV.newT rh hT ⟨_, _, rfl, ?_, _, _, rfl, hL _ (zip_mem hw hb), rfl⟩⟩
  show V.int _ = V.int _
  simp
theorem pair2_get : ∀ (xs ys : List EV) (i : Nat) (v : EV), (pair2 xs ys)[i]? = some v → ∃ a b, xs[i]? = some a ∧ ys[i]? = some b ∧ v = .tup [a, b]
  | [], _, i, v, h => by simp [pair2] at h
  | _ :: _, [], i, v, h => by simp [pair2] at h
  | x :: xs, y :: ys, 0, v, h => by simp [pair2] at h; exact ⟨x, y, rfl, rfl, h.symm⟩
  | x :: xs, y :: ys, i + 1, v, h => by
    obtain ⟨a, b, h1, h2, h3⟩ := pair2_get xs ys i v (by simpa [pair2] using h)
    exact ⟨a, b, by simpa using h1, by simpa using h2, h3⟩
theorem pair2_len : ∀ (xs ys : List EV), (pair2 xs ys).length = min xs.length ys.length
  | [], _ => by simp [pair2]
  | _ :: _, [] => by simp [pair2]
  | x :: xs, y :: ys => by rw [pair2, List.length_cons, pair2_len, List.length_cons, List.length_cons]; omega
theorem Sok.zip {vs ws : List EV} {ys zs : List V} {p q : Addr} (hp : H p = some (.lst ys)) (na : ¬ N.a p) (np : p ∉ ρ) (hq : H q = some (.lst zs)) (nb : ¬ N.a q) (nq : q ∉ ρ) (r : RVs K N ρ H vs ys) (r' : RVs K N ρ H ws zs) : Sok K N ρ H (pair2 vs ws) (Itz K p q) := by
  refine ⟨_, _, vs.zip ys ++ ws.zip zs, walk_zip (xs := ys) (ys := zs) (by rw [pair2_len, r.length, r'.length]), fun ρ1 H1 e => ⟨.of (e.keep hp na np trivial), .of (e.keep hq nb nq trivial)⟩, fun p hp => (List.mem_append.mp hp).elim (r.zip_mem p) (r'.zip_mem p), fun i ρ1 H1 h x H' v N1 rh hL y hv => ?_⟩
  obtain ⟨T, a, b, rfl, hT, rfl, ha, hb⟩ := y
  obtain ⟨w1, w2, hw1, hw2, rfl⟩ := pair2_get vs ws i v hv
  exact ⟨rh.newX hT, rh.new hT, RV.newT rh hT ⟨_, _, rfl, hL _ (List.mem_append_left _ (zip_mem hw1 ha)), _, _, rfl, hL _ (List.mem_append_right _ (zip_mem hw2 hb)), rfl⟩⟩
theorem Sok.keys {ks : List K0} {kvs : List (Key × V)} {d : Addr} {o : Obj} (hd : H d = some (.frz o (.dK kvs))) (nd : d ∉ ρ) (hk : kvs.map (·.1) = ks.map toK) (ok : KOk ks) : Sok K N ρ H (ks.map kEV) (Itk d o kvs) := by
  have hl : ks.length = kvs.length := by
    have := congrArg List.length hk
    simpa using this.symm
  refine ⟨_, _, [], by rw [List.length_map, hl]; exact walk_keys, fun ρ1 H1 e => e.keepO hd (fun _ => by simp) (fun _ => by simp) nd trivial, fun p hp => by simp at hp, fun i ρ1 H1 h x H' v N1 rh hL y hv => ?_⟩
  obtain ⟨rfl, k, w, hkv, rfl⟩ := y
  rw [List.getElem?_map] at hv
  obtain ⟨q, hq, rfl⟩ := Option.map_eq_some_iff.mp hv
  have e1 : toK q = k := by
    have h1 : (ks.map toK)[i]? = some (toK q) := by rw [List.getElem?_map, hq]; rfl
    rw [← hk, List.getElem?_map, hkv] at h1
    exact (Option.some.inj h1).symm
  subst e1
  refine ⟨rh.refl, rh, ?_⟩
  have := ok.2 q (List.mem_of_getElem? hq)
  cases q with
  | i i => rfl
  | s s => exact ⟨rfl, this⟩
end
/-! ### PI -/
theorem PIi {X : Cx} {tg e : Expr} {t t' : TI} (h : PI X tg e t) (i : ∀ σ H R, t' σ H R → t σ H R) : PI X tg e t' := ⟨fun pins s σ H R I q => h.run pins s σ H R I (i σ H R q)⟩
def mOf (m : M) : MN := fun env h => (m env h).bind fun x h => (match seqOf x with
    | some xs => .ok xs h
    | none => .bad)
def mRange1 (m : M) : MN := fun env h => (m env h).bind fun x h => (match x with
    | .int j => if small62 j then .ok (rangeF 0 j.toNat) h else .bad
    | _ => .bad)
def mRange2 (a b : M) : MN := fun env h => (a env h).bind fun x h => (b env h).bind fun y h => (match x, y with
    | .int i, .int j => if small62 i && small62 j then .ok (rangeF i (j - i).toNat) h else .bad
    | _, _ => .bad)
def mEnum (m : M) : MN := fun env h => (m env h).bind fun x h => (match x with
    | .lst xs => .ok (enumF 0 xs) h
    | _ => .bad)
def mZip (a b : M) : MN := fun env h => (a env h).bind fun x h => (b env h).bind fun y h => (match x, y with
    | .lst xs, .lst ys => .ok (pair2 xs ys) h
    | _, _ => .bad)
section
variable {X : Cx} {W : Nat → Hp → Prop} {fz : Bool} {tg a b : Expr} {ma mb : M} {pos : Pos}
theorem Iof (ha : PE X a (tM X.K W fz ma)) : PI X tg a (tI X.K W fz (mOf ma)) := by
  refine ⟨fun pins s σ H R I hh => ?_⟩
  obtain ⟨N, ρ, env, h, se, nf, q⟩ := hh
  unfold mOf at q
  cases e : ma env h with
  | bad => rw [e] at q; exact (show False from q).elim
  | exc c h1 =>
    rw [e] at q
    exact (pi_list ha).run pins s σ H R I ⟨N, ρ, env, h, se, nf, by rw [e]; exact q⟩
  | ok v h1 =>
    rw [e] at q
    simp only [Res.bind_ok] at q
    cases v with
    | tup vs =>
      refine (pi_tup ha).run pins s σ H R I ⟨N, ρ, env, h, se, nf, ?_⟩
      rw [e]
      intro ρ1 H1 ex rh x rx
      obtain ⟨p, ys, rfl, hp, ra⟩ := rx
      exact ⟨p, rfl, ⟨ys, hp⟩, q ρ1 H1 ex rh _ (.tup hp ra)⟩
    | lst vs =>
      refine (pi_list ha).run pins s σ H R I ⟨N, ρ, env, h, se, nf, ?_⟩
      rw [e]
      intro ρ1 H1 ex rh x rx
      obtain ⟨p, ys, rfl, hp, hn, ra⟩ := rx
      exact ⟨p, rfl, ⟨ys, .of hp⟩, q ρ1 H1 ex rh _ (.list hp hn.1 hn.2 ra)⟩
    | fro vs =>
      refine (pi_list ha).run pins s σ H R I ⟨N, ρ, env, h, se, nf, ?_⟩
      rw [e]
      intro ρ1 H1 ex rh x rx
      obtain ⟨p, ys, rfl, hp, ra⟩ := rx
      have hq : SqL X.K H1 p ys := by
        rcases hp with ⟨hp, _⟩ | hp
        · exact .inl hp
        · rcases hp with (hp | ⟨o, hp⟩) | hp
          · cases hp
          · cases hp
          · exact .inr hp
      exact ⟨p, rfl, ⟨ys, hq⟩, q ρ1 H1 ex rh _ (.fro hp ra)⟩
    | str t =>
      refine (pi_str ha).run pins s σ H R I ⟨N, ρ, env, h, se, nf, ?_⟩
      rw [e]
      intro ρ1 H1 ex rh x rx
      obtain ⟨rfl, ht⟩ := rx
      exact ⟨toS t, rfl, q ρ1 H1 ex rh _ (.str ht)⟩
    | _ => exact (show False from q).elim
theorem small62_iff {i : Int} (h : small62 i = true) : -(2 ^ 62) ≤ i ∧ i < 2 ^ 62 := by
  unfold small62 at h
  rw [Bool.and_eq_true] at h
  have h1 := of_decide_eq_true h.1
  have h2 := of_decide_eq_true h.2
  constructor <;> omega
theorem Irange1 {p : Pos} (hg : Gl X "range") (hm : X.mg "range" = none) (na : ns a = true) (ha : PE X a (tM X.K W fz ma)) : PI X tg (.Call (.Name "range" p) [a] [] pos) (tI X.K W fz (mRange1 ma)) :=
  PIi (pi_range1 hg hm (pa_cons ha pa_nil (star_cons na)) (star_cons na)) fun σ H R ⟨N, ρ, env, h, se, nf, q⟩ => tM_bind se nf q fun v h1 ρ1 H1 x e1 se1 nf1 rx q1 => by
    cases v with
    | int j =>
      cases (show x = _ from rx)
      simp only at q1
      split at q1
      · rename_i hj
        obtain ⟨h1, h2⟩ := small62_iff hj
        exact ⟨j, rfl, h1, h2, og_here q1 se1.rh _ .range⟩
      · exact (show False from q1).elim
    | _ => exact (show False from q1).elim
theorem Irange2 {p : Pos} (hg : Gl X "range") (hm : X.mg "range" = none) (na : ns a = true) (nb : ns b = true) (ha : PE X a (tM X.K W fz ma)) (hb : PE X b (tM X.K W fz mb)) : PI X tg (.Call (.Name "range" p) [a, b] [] pos) (tI X.K W fz (mRange2 ma mb)) :=
  PIi (pi_range2 hg hm (pa_cons ha (pa_cons hb pa_nil (star_cons nb)) (star_cons na)) (by rw [star_cons na, star_cons nb]; rfl) (star_cons nb)) fun σ H R ⟨N, ρ, env, h, se, nf, q⟩ => tM_bind se nf q fun v h1 ρ1 H1 x e1 se1 nf1 rx q1 => tM_bind se1 nf1 q1 fun w h2 ρ2 H2 y e2 se2 nf2 ry q2 => by
    split at q2
    · rename_i i j
      cases (show x = _ from rx)
      cases (show y = _ from ry)
      split at q2
      · rename_i hj
        rw [Bool.and_eq_true] at hj
        obtain ⟨h1, h2⟩ := small62_iff hj.1
        obtain ⟨h3, h4⟩ := small62_iff hj.2
        exact ⟨i, j, rfl, ⟨h1, h2, h3, h4⟩, og_here q2 se2.rh _ .range⟩
      · exact (show False from q2).elim
    · exact (show False from q2).elim
theorem Ienum {p tpos : Pos} {elts : List Expr} {kk : Nat} (hg : Gl X "enumerate") (hm : X.mg "enumerate" = none) (na : ns a = true) (ha : PE X a (tM X.K W fz ma)) : PI X (.Tuple elts kk tpos) (.Call (.Name "enumerate" p) [a] [] pos) (tI X.K W fz (mEnum ma)) :=
  PIi (pi_enum hg hm (pa_cons ha pa_nil (star_cons na)) (star_cons na)) fun σ H R ⟨N, ρ, env, h, se, nf, q⟩ => tM_bind se nf q fun v h1 ρ1 H1 x e1 se1 nf1 rx q1 => by
    cases v with
    | lst vs =>
      obtain ⟨d, ys, rfl, hp, hn, ra⟩ := rx
      exact ⟨d, ys, rfl, .of hp, og_here q1 se1.rh _ (.enum hp hn.1 hn.2 ra)⟩
    | _ => exact (show False from q1).elim
theorem Izip {p tpos : Pos} {elts : List Expr} {kk : Nat} (hg : Gl X "zip") (hm : X.mg "zip" = none) (na : ns a = true) (nb : ns b = true) (ha : PE X a (tM X.K W fz ma)) (hb : PE X b (tM X.K W fz mb)) : PI X (.Tuple elts kk tpos) (.Call (.Name "zip" p) [a, b] [] pos) (tI X.K W fz (mZip ma mb)) :=
  PIi (pi_zip hg hm (pa_cons ha (pa_cons hb pa_nil (star_cons nb)) (star_cons na)) (star_cons na) (by rw [star_cons nb]; rfl)) fun σ H R ⟨N, ρ, env, h, se, nf, q⟩ => tM_bind se nf q fun v h1 ρ1 H1 x e1 se1 nf1 rx q1 => tM_bind se1 nf1 q1 fun w h2 ρ2 H2 y e2 se2 nf2 ry q2 => by
    have rx2 := RV.mono (N' := N) e2 Nle.rfl rx
    cases v with
    | lst vs => cases w with
      | lst ws =>
        obtain ⟨d, ys, rfl, hp, hn, ra⟩ := rx2
        obtain ⟨d', zs, rfl, hp', hn', rb⟩ := ry
        exact ⟨d, d', ys, zs, rfl, .of hp, .of hp', og_here q2 se2.rh _ (.zip hp hn.1 hn.2 hp' hn'.1 hn'.2 ra rb)⟩
      | _ => exact (show False from q2).elim
    | _ => exact (show False from q2).elim
end
end EvS
end
section
set_option Elab.async false
set_option linter.all false
set_option maxRecDepth 100000
set_option maxHeartbeats 1000000
/-! EvX: comprehensions. -/
namespace EvS
open PySem PySem.Spec PyProof.Rows L2 Ev
section
variable {K : PySem.W.Frag} {N N' : Nz} {ρ ρ1 : List Addr} {H H1 : Hp} {h h1 : Hh} {env : Ev.Env} {σ : L2.St} {D : Addr} {o : HO} {zs : List V}
/-! ### an object that no value has is written -/
theorem sqT_upd {q : Addr} {ys : List V} (hD : H D = some (.lst zs) ∨ ∃ kvs, H D = some (.dK kvs)) (r : SqT K H q ys) : SqT K (upd H D o) q ys := by
  rcases r with (r | ⟨ob, r⟩) | r
  · refine .inl (.inl ?_)
    rw [upd_ne]; exact r
    intro e; subst e
    rcases hD with hD | ⟨_, hD⟩ <;> rw [r] at hD <;> cases hD
  · refine .inl (.inr ⟨ob, ?_⟩)
    rw [upd_ne]; exact r
    intro e; subst e
    rcases hD with hD | ⟨_, hD⟩ <;> rw [r] at hD <;> cases hD
  · exact .inr r
theorem Rd.upd {p : Addr} {u : HO} (ne : p ≠ D) (r : Rd H p u) : Rd (upd H D o) p u := by
  rcases r with r | ⟨ob, r⟩
  · exact .inl (by rw [upd_ne ne]; exact r)
  · exact .inr ⟨ob, by rw [upd_ne ne]; exact r⟩
mutual
theorem RV.updN (nD : N.a D) (hD : H D = some (.lst zs) ∨ ∃ kvs, H D = some (.dK kvs)) : ∀ {v : EV} {x : V}, RV K N ρ H v x → RV K N ρ (upd H D o) v x
  | .non, _, r => r
  | .bl _, _, r => r
  | .int _, _, r => r
  | .str _, _, r => r
  | .rep _, _, r => r
  | .ref _, _, r => r
  | .tup xs, _, r => by
    obtain ⟨p, ys, rfl, h1, h2⟩ := r
    exact ⟨p, ys, rfl, sqT_upd hD h1, RVs.updN nD hD h2⟩
  | .lst xs, _, r => by
    obtain ⟨p, ys, rfl, h1, n, h2⟩ := r
    have ne : p ≠ D := by intro e; subst e; exact n.1 nD
    exact ⟨p, ys, rfl, by rw [upd_ne ne]; exact h1, n, RVs.updN nD hD h2⟩
  | .dct ks vs, _, r => by
    obtain ⟨p, kvs, rfl, h1, n, hk, hd, h2⟩ := r
    have ne : p ≠ D := by intro e; subst e; exact n.1 nD
    exact ⟨p, kvs, rfl, ⟨fun z => by rw [upd_ne ne]; exact h1.1 z, Rd.upd ne h1.2⟩, n, hk, hd, RVs.updN nD hD h2⟩
  | .fro xs, _, r => by
    obtain ⟨p, ys, rfl, h1, h2⟩ := r
    refine ⟨p, ys, rfl, ?_, RVs.updN nD hD h2⟩
    rcases h1 with ⟨h1, n⟩ | h1
    · exact .inl ⟨Rd.upd (by intro e; subst e; exact n.1 nD) h1, n⟩
    · exact .inr h1
theorem RVs.updN (nD : N.a D) (hD : H D = some (.lst zs) ∨ ∃ kvs, H D = some (.dK kvs)) : ∀ {vs : List EV} {xs : List V}, RVs K N ρ H vs xs → RVs K N ρ (upd H D o) vs xs
  | [], _, r => r
  | v :: vs, _, r => by
    obtain ⟨y, q, rfl, h1, h2⟩ := r
    exact ⟨y, q, rfl, RV.updN nD hD h1, RVs.updN nD hD h2⟩
end
theorem RH.updN (nD : N.a D) (nρ : D ∉ ρ) (hD : H D = some (.lst zs) ∨ ∃ kvs, H D = some (.dK kvs)) (r : RH K N ρ H h) : RH K N ρ (upd H D o) h where
  len := r.len
  nd := r.nd
  obj := fun n a xs e1 e2 => by
    obtain ⟨ys, h1, h2⟩ := r.obj n a xs e1 e2
    have ne : a ≠ D := by intro e; subst e; exact nρ (List.mem_of_getElem? e1)
    exact ⟨ys, by rw [upd_ne ne]; exact h1, RVs.updN nD hD h2⟩
  trk := fun a q => by
    by_cases e : a = D
    · subst e; exact ⟨o, upd_same⟩
    · rw [upd_ne e]; exact r.trk a q
/-- since (ρ, H) -/
theorem Ext.updN (e : Ext K ρ H ρ1 H1) (h0 : H D = none) (nρ : D ∉ ρ1) (hD : H1 D = some (.lst zs) ∨ ∃ kvs, H1 D = some (.dK kvs)) : Ext K ρ H ρ1 (upd H1 D o) where
  pre := e.pre
  fresh := e.fresh
  keep := fun a u q n t => by rw [upd_ne (ne_of_none q h0)]; exact e.keep a u q n t
  tbl := fun a ps q => by rw [upd_ne (ne_of_none q h0)]; exact e.tbl a ps q
  tups := fun p ys q => sqT_upd hD (e.tups p ys q)
  shr := fun a m => by
    by_cases z : a = D
    · subst z; exact ⟨o, upd_same⟩
    · rw [upd_ne z]; exact e.shr a m
  tabs := fun P t => tabS_of (e.tabs P t) fun b o z k => by
    by_cases hb : b = D
    · subst hb
      rcases hD with hD | ⟨kvs, hD⟩ <;> rw [hD] at z <;> cases z <;> rcases k with ⟨ps, k⟩ | ⟨c, q, k⟩ <;> cases k
    · rw [upd_ne hb]; exact z
theorem SE.monoN (s : SE K N ρ env h σ H) (e : Ext K ρ H ρ1 H1) (r : RH K N' ρ1 H1 h1) (hN : Nle N' N H) : SE K N' ρ1 env h1 σ H1 where
  rh := r
  len := s.len
  val := fun i v q => by
    obtain ⟨x, h1, h2⟩ := s.val i v q
    exact ⟨x, h1, RV.mono e hN h2⟩
  ol := fun i xs q => by
    obtain ⟨a, ys, h1, h2, h3, h4⟩ := s.ol i xs q
    exact ⟨a, ys, h1, e.keep _ _ h2 h3 trivial, e.avoid h2 h3, RVs.mono e hN h4⟩
  od := fun i ks vs q => by
    obtain ⟨a, kvs, h1, h2, h3, h4, h5, h6⟩ := s.od i ks vs q
    obtain ⟨o, ho⟩ := Rd.some h2.2
    exact ⟨a, kvs, h1, ⟨fun z => e.keep _ _ (h2.1 fun q => z (hN.2 _ q)) h3 trivial, Rd.keep h2.2 e h3 trivial⟩, e.avoid ho h3, h4, h5, RVs.mono e hN h6⟩
theorem RH.monoN (r : RH K N ρ H h) (hN : ∀ b, N'.a b → ∃ o, H b = some o) (hle : Nle N' N H) : RH K N' ρ H h :=
  ⟨r.len, r.nd, fun n a xs e1 e2 => by
    obtain ⟨ys, h1, h2⟩ := r.obj n a xs e1 e2
    exact ⟨ys, h1, RVs.mono r.refl hle h2⟩, hN⟩
theorem RH.sub (r : RH K N ρ H h) (hN : ∀ b, N'.a b → N.a b) (hz : ∀ p, N.z p → N'.z p) : RH K N' ρ H h :=
  r.monoN (fun b q => r.trk b (hN b q)) ⟨fun b q => .inl (hN b q), hz⟩
/-! ### slots -/
theorem wipeE_get {i : Nat} {w : SV} : ∀ {vs : List Nat} {env : Ev.Env}, (Ev.wipe env vs)[i]? = some (some w) → env[i]? = some (some w) ∧ i ∉ vs
  | [], _, e => ⟨e, by simp⟩
  | v :: vs, env, e => by
    obtain ⟨h1, h2⟩ := wipeE_get (vs := vs) (show (Ev.wipe (env.set v none) vs)[i]? = some (some w) from e)
    by_cases hv : v = i
    · subst hv
      by_cases hl : v < env.length
      · rw [List.getElem?_set_self hl] at h1; cases h1
      · rw [List.getElem?_eq_none (by simpa using hl)] at h1; cases h1
    · rw [List.getElem?_set_ne hv] at h1
      exact ⟨h1, by simp only [List.mem_cons, not_or]; exact ⟨fun e => hv e.symm, h2⟩⟩
theorem wipeE_len : ∀ (vs : List Nat) (env : Ev.Env), (Ev.wipe env vs).length = env.length
  | [], _ => rfl
  | v :: vs, env => by
    show (Ev.wipe (env.set v none) vs).length = _
    rw [wipeE_len, List.length_set]
theorem SE.wipe (vs : List Nat) (s : SE K N ρ env h σ H) : SE K N ρ (Ev.wipe env vs) h (L2.wipe σ vs) H where
  rh := s.rh
  len := by rw [wipeE_len, wipe_length, s.len]
  val := fun i v q => by
    obtain ⟨q1, q2⟩ := wipeE_get q
    rw [wipe_out q2]
    exact s.val i v q1
  ol := fun i xs q => by
    obtain ⟨q1, q2⟩ := wipeE_get q
    rw [wipe_out q2]
    exact s.ol i xs q1
  od := fun i ks vs q => by
    obtain ⟨q1, q2⟩ := wipeE_get q
    rw [wipe_out q2]
    exact s.od i ks vs q1
/-- a slot is set to a value -/
theorem SE.set {i : Nat} {v : EV} {x : V} (s : SE K N ρ env h σ H) (r : RV K N ρ H v x) : SE K N ρ (env.set i (some (.val v))) h (σ.set i (some x)) H where
  rh := s.rh
  len := by rw [List.length_set, List.length_set, s.len]
  val := fun j w q => by
    by_cases e : i = j
    · subst e
      by_cases hl : i < env.length
      · rw [List.getElem?_set_self hl] at q
        cases q
        exact ⟨x, List.getElem?_set_self (by rw [← s.len]; exact hl), r⟩
      · rw [List.getElem?_eq_none (by simpa using hl)] at q; cases q
    · rw [List.getElem?_set_ne e] at q ⊢
      exact s.val j w q
  ol := fun j xs q => by
    by_cases e : i = j
    · subst e
      by_cases hl : i < env.length
      · rw [List.getElem?_set_self hl] at q; cases q
      · rw [List.getElem?_eq_none (by simpa using hl)] at q; cases q
    · rw [List.getElem?_set_ne e] at q ⊢
      exact s.ol j xs q
  od := fun j ks vs q => by
    by_cases e : i = j
    · subst e
      by_cases hl : i < env.length
      · rw [List.getElem?_set_self hl] at q; cases q
      · rw [List.getElem?_eq_none (by simpa using hl)] at q; cases q
    · rw [List.getElem?_set_ne e] at q ⊢
      exact s.od j ks vs q
theorem wipe_get {σ : L2.St} : ∀ (vs : List Nat) (j : Nat), (L2.wipe σ vs)[j]? = if j ∈ vs then (σ[j]?).map (fun _ => none) else σ[j]?
  | [], j => by simp [L2.wipe]
  | v :: vs, j => by
    have ih := wipe_get (σ := σ) vs j
    show ((L2.wipe σ vs).set v none)[j]? = _
    rw [List.getElem?_set]
    by_cases hv : v = j
    · subst hv
      rw [if_pos rfl, if_pos List.mem_cons_self, wipe_length]
      by_cases hl : v < σ.length
      · rw [if_pos hl, List.getElem?_eq_getElem hl]; rfl
      · rw [if_neg hl, List.getElem?_eq_none (by omega)]; rfl
    · rw [if_neg hv, ih]
      by_cases hm : j ∈ vs
      · rw [if_pos hm, if_pos (List.mem_cons_of_mem _ hm)]
      · rw [if_neg hm, if_neg (by simp only [List.mem_cons, not_or]; exact ⟨fun z => hv z.symm, hm⟩)]
theorem wipe_set {σ : L2.St} {i : Nat} {y : Option V} {vs : List Nat} (hm : i ∈ vs) : L2.wipe (σ.set i y) vs = L2.wipe σ vs := by
  refine List.ext_getElem? fun j => ?_
  rw [wipe_get, wipe_get, List.getElem?_set]
  by_cases h : i = j
  · subst h
    rw [if_pos hm, if_pos hm, if_pos rfl]
    by_cases hl : i < σ.length
    · rw [if_pos hl, List.getElem?_eq_getElem hl]; rfl
    · rw [if_neg hl, List.getElem?_eq_none (by omega)]
  · rw [if_neg h]
theorem wipe_wipe {σ : L2.St} {vs : List Nat} : L2.wipe (L2.wipe σ vs) vs = L2.wipe σ vs := by
  refine List.ext_getElem? fun j => ?_
  rw [wipe_get, wipe_get]
  by_cases h : j ∈ vs
  · rw [if_pos h, if_pos h, Option.map_map]; rfl
  · rw [if_neg h, if_neg h]
end
def mComp (t : Ev.T) (own : List Nat) (ms : MN) (mt me : M) : M := fun env h => (ms env h).bind fun xs h => (comps t mt me (Ev.wipe env own) xs [] h).bind fun ys h => .ok (.lst ys) h
section
variable {X : Cx} {W : Nat → Hp → Prop} {fz : Bool}
theorem comp_core {t : Ev.T} {own : List Nat} {mt me : M} {fz' : Bool} {σ : L2.St} {Q : VK} {N : Nz} {ρ1 : List Addr} {env : Ev.Env} {xs : List EV} {h1 : Hh} {H1 : Hp} (hsl : ∀ i ∈ slots t, i ∈ own) (se : SE X.K N ρ1 env h1 σ H1) (nf : fz' = true → ∀ p, ¬ N.z p)
    (q : og X.K W N ρ1 H1 ((comps t mt me (Ev.wipe env own) xs [] h1).bind fun ys h => .ok (.lst ys) h) (gv X.K N Q)) {J : It} (hJ : Sok X.K N ρ1 H1 xs J) {D : Addr} (hD : H1 D = none) :
    ∃ W : Nat → Nat → Hp → Prop, (∃ m, W 0 m (upd H1 D (.lst []))) ∧ ∀ i m H, W i m H →
      (J.stop i H ∧ Q (.ref D) H) ∨ (J.go i H ∧ ∃ Nx : Hp → Prop, (∀ H', Nx H' → ∃ m', m' < m ∧ W (i + 1) m' H') ∧ ∀ x H', J.yld i H x H' → gE X.K t x (L2.wipe σ own) H' fun σ2 H2 => L2.wipe σ2 own = L2.wipe σ own ∧ tT X.K (fun _ _ => False) fz' mt σ2 H2 fun b H3 =>
        if b = true then tM X.K (fun _ _ => False) fz' me σ2 H3 fun y H4 => ∃ acc, H4 D = some (.lst acc) ∧ acc.length < sizeLine ∧ Nx (upd H4 D (.lst (acc ++ [y]))) else Nx H3) := by
  obtain ⟨G, Y, L, w, hG, hL, hItem⟩ := hJ
  have leD : Nle ⟨fun b => N.a b ∨ b = D, N.z⟩ N H1 := Nle.new hD
  refine lc_it w (fun i H => ∃ ρ h acc ys, Ext X.K ρ1 H1 ρ H ∧ RH X.K ⟨fun b => N.a b ∨ b = D, N.z⟩ ρ H h ∧ H D = some (.lst ys) ∧ D ∉ ρ ∧ RVs X.K ⟨fun b => N.a b ∨ b = D, N.z⟩ ρ H acc ys ∧
    og X.K W N ρ1 H1 ((comps t mt me (Ev.wipe env own) (xs.drop i) acc h).bind fun ys h => .ok (.lst ys) h) (gv X.K N Q)) ?_ ?_ ?_ ?_
  · exact ⟨ρ1, h1, [], [], se.rh.newX hD, se.rh.newN hD, upd_same, (se.rh.nin hD).2, rfl, q⟩
  · intro i H hi hp
    obtain ⟨ρ, h, acc, ys, ex, _⟩ := hp
    exact hG ρ H (.of ex)
  · intro i x H H' hi hp y
    obtain ⟨ρ, h, acc, ys, ex, rh, hDl, nD, ra, q⟩ := hp
    have hv : xs[i]? = some xs[i] := by simp [hi]
    obtain ⟨ex2, rh2, rv⟩ := hItem i ρ H h x H' xs[i] ⟨fun b => N.a b ∨ b = D, N.z⟩ rh (fun p hp => RV.mono ex leD (hL p hp)) y hv
    have hDl2 : H' D = some (.lst ys) := ex2.keep _ _ hDl nD trivial
    rw [List.drop_eq_getElem_cons hi] at q
    unfold comps at q
    cases ep : t.put xs[i] (Ev.wipe env own) with
    | none => rw [ep] at q; exact (show False from q).elim
    | some env1 =>
      rw [ep] at q
      simp only at q
      have seI : SE X.K ⟨fun b => N.a b ∨ b = D, N.z⟩ ρ (Ev.wipe env own) h (L2.wipe σ own) H' := (se.monoN (ex.trans ex2) rh2 leD).wipe own
      refine ⟨⟨fun b => N.a b ∨ b = D, N.z⟩, ρ, fun e s => SE X.K ⟨fun b => N.a b ∨ b = D, N.z⟩ ρ e h s H' ∧ L2.wipe s own = L2.wipe σ own, xs[i], Ev.wipe env own, env1, ⟨seI, ?_⟩, rv, ep, fun e s j w z hj p r => ⟨p.1.set r, (wipe_set (hsl j hj)).trans p.2⟩, fun σ' p => ⟨p.2, ?_⟩⟩
      · exact wipe_wipe
      · refine ⟨⟨fun b => N.a b ∨ b = D, N.z⟩, ρ, env1, h, p.1, nf, ?_⟩
        cases em : mt env1 h with
        | bad => rw [em] at q; exact (show False from q).elim
        | exc c h2 => rw [em] at q; exact (show False from q).elim
        | ok v h2 =>
          rw [em] at q
          cases v with
          | bl b =>
            intro ρ3 H3 ex3 rh3
            refine ⟨b, rfl, ?_⟩
            have hDl3 : H3 D = some (.lst ys) := ex3.keep _ _ hDl2 nD trivial
            have nD3 : D ∉ ρ3 := ex3.avoid hDl2 nD
            cases b with
            | false =>
              refine iteF ?_
              exact ⟨ρ3, h2, acc, ys, (ex.trans ex2).trans ex3, rh3, hDl3, nD3, RVs.mono ex3 Nle.rfl (RVs.mono ex2 Nle.rfl ra), q⟩
            | true =>
              refine iteT ?_
              refine ⟨⟨fun b => N.a b ∨ b = D, N.z⟩, ρ3, env1, h2, p.1.mono ex3 rh3, nf, ?_⟩
              simp only at q
              cases ee : me env1 h2 with
              | bad => rw [ee] at q; exact (show False from q).elim
              | exc c h3 => rw [ee] at q; exact (show False from q).elim
              | ok u h3 =>
                rw [ee] at q
                simp only at q
                intro ρ4 H4 ex4 rh4 z rz
                have hDl4 : H4 D = some (.lst ys) := ex4.keep _ _ hDl3 nD3 trivial
                have nD4 : D ∉ ρ4 := ex4.avoid hDl3 nD3
                have ra4 := RVs.mono (N' := ⟨fun b => N.a b ∨ b = D, N.z⟩) ex4 Nle.rfl (RVs.mono (N' := ⟨fun b => N.a b ∨ b = D, N.z⟩) ex3 Nle.rfl (RVs.mono (N' := ⟨fun b => N.a b ∨ b = D, N.z⟩) ex2 Nle.rfl ra))
                split at q
                · rename_i hl
                  refine ⟨ys, hDl4, by rw [← ra.length, L_eq]; exact hl, ρ4, h3, acc ++ [u], ys ++ [z], ?_, ?_, upd_same, nD4, ?_, q⟩
                  · exact (((ex.trans ex2).trans ex3).trans ex4).updN hD nD4 (.inl hDl4)
                  · exact rh4.updN (Or.inr rfl) nD4 (.inl hDl4)
                  · exact RVs.updN (Or.inr rfl) (.inl hDl4) (ra4.append (RVs.one rz))
                · exact (show False from q).elim
          | _ => exact (show False from q).elim
  · intro H hp
    obtain ⟨ρ, h, acc, ys, ex, rh, hDl, nD, ra, q⟩ := hp
    rw [List.drop_length] at q
    have rhN : RH X.K N ρ H h := rh.sub (fun b z => Or.inl z) (fun _ z => z)
    refine q ρ H ex rhN (.ref D) ⟨D, ys, rfl, hDl, ⟨fun z => ?_, nD⟩, RVs.mono (N := ⟨fun b => N.a b ∨ b = D, N.z⟩) rh.refl ⟨fun b z => Or.inl (Or.inl z), fun _ z => z⟩ ra⟩
    obtain ⟨o, ho⟩ := se.rh.trk D z
    rw [hD] at ho; cases ho
end
end EvS
end
section
set_option Elab.async false
set_option linter.all false
set_option maxRecDepth 100000
set_option maxHeartbeats 1000000
/-! EvY: comprehensions as expressions; dicts that are walked. -/
namespace EvS
open PySem PySem.Spec PyProof.Rows L2 Ev
/-- d may be walked -/
abbrev Nz.lk (N : Nz) (d : Addr) : Nz := ⟨N.a, fun p => N.z p ∨ p = d⟩
section
variable {K : PySem.W.Frag} {N : Nz} {ρ ρ1 : List Addr} {H H1 : Hp} {h h1 : Hh} {env : Ev.Env} {σ : L2.St} {d : Addr} {od : Obj} {kvs : List (Key × V)}
theorem rd_dk {kvs' : List (Key × V)} (hd : H d = some (HO.dK kvs)) (r : Rd H d (HO.dK kvs')) : kvs' = kvs := by
  rcases r with r | ⟨o, r⟩
  · rw [hd] at r; cases r; rfl
  · rw [hd] at r; cases r
theorem rd_fz {kvs' : List (Key × V)} (hd : H d = some (HO.frz od (HO.dK kvs))) (r : Rd H d (HO.dK kvs')) : kvs' = kvs := by
  rcases r with r | ⟨o, r⟩
  · rw [hd] at r; cases r
  · rw [hd] at r; cases r; rfl
mutual
theorem RV.lock (hd : H d = some (.dK kvs)) : ∀ {v : EV} {x : V}, RV K N ρ H v x → RV K (N.lk d) ρ (upd H d (.frz od (.dK kvs))) v x
  | .non, _, r => r
  | .bl _, _, r => r
  | .int _, _, r => r
  | .str _, _, r => r
  | .rep _, _, r => r
  | .ref _, _, r => r
  | .tup xs, _, r => by
    obtain ⟨p, ys, rfl, h1, h2⟩ := r
    exact ⟨p, ys, rfl, sqT_upd (zs := []) (.inr ⟨_, hd⟩) h1, RVs.lock hd h2⟩
  | .lst xs, _, r => by
    obtain ⟨p, ys, rfl, h1, n, h2⟩ := r
    have ne : p ≠ d := by intro e; subst e; rw [hd] at h1; cases h1
    exact ⟨p, ys, rfl, by rw [upd_ne ne]; exact h1, n, RVs.lock hd h2⟩
  | .dct ks vs, _, r => by
    obtain ⟨p, kvs', rfl, h1, n, hk, ok, h2⟩ := r
    by_cases e : p = d
    · have e' := e.symm
      subst e'
      rw [rd_dk hd h1.2] at hk h2
      exact ⟨d, kvs, rfl, ⟨fun z => (z (Or.inr rfl)).elim, .inr ⟨od, upd_same⟩⟩, n, hk, ok, RVs.lock hd h2⟩
    · exact ⟨p, kvs', rfl, ⟨fun z => by rw [upd_ne e]; exact h1.1 fun q => z (Or.inl q), Rd.upd e h1.2⟩, n, hk, ok, RVs.lock hd h2⟩
  | .fro xs, _, r => by
    obtain ⟨p, ys, rfl, h1, h2⟩ := r
    refine ⟨p, ys, rfl, ?_, RVs.lock hd h2⟩
    rcases h1 with ⟨h1, n⟩ | h1
    · have ne : p ≠ d := by
        intro e; subst e
        rcases h1 with h1 | ⟨o, h1⟩ <;> rw [hd] at h1 <;> cases h1
      exact .inl ⟨Rd.upd ne h1, n⟩
    · exact .inr h1
theorem RVs.lock (hd : H d = some (.dK kvs)) : ∀ {vs : List EV} {xs : List V}, RVs K N ρ H vs xs → RVs K (N.lk d) ρ (upd H d (.frz od (.dK kvs))) vs xs
  | [], _, r => r
  | v :: vs, _, r => by
    obtain ⟨y, q, rfl, h1, h2⟩ := r
    exact ⟨y, q, rfl, RV.lock hd h1, RVs.lock hd h2⟩
end
theorem sqT_fz {q : Addr} {ys : List V} {o : HO} (hD : H d = some (.frz od (.dK kvs))) (r : SqT K H q ys) : SqT K (upd H d o) q ys := by
  rcases r with (r | ⟨ob, r⟩) | r
  · refine .inl (.inl ?_)
    rw [upd_ne]; exact r
    intro e; subst e
    rw [hD] at r; cases r
  · refine .inl (.inr ⟨ob, ?_⟩)
    rw [upd_ne]; exact r
    intro e; subst e
    rw [hD] at r; cases r
  · exact .inr r
mutual
theorem RV.unlock (hd : H d = some (.frz od (.dK kvs))) : ∀ {v : EV} {x : V}, RV K (N.lk d) ρ H v x → RV K N ρ (upd H d (.dK kvs)) v x
  | .non, _, r => r
  | .bl _, _, r => r
  | .int _, _, r => r
  | .str _, _, r => r
  | .rep _, _, r => r
  | .ref _, _, r => r
  | .tup xs, _, r => by
    obtain ⟨p, ys, rfl, h1, h2⟩ := r
    exact ⟨p, ys, rfl, sqT_fz hd h1, RVs.unlock hd h2⟩
  | .lst xs, _, r => by
    obtain ⟨p, ys, rfl, h1, n, h2⟩ := r
    have ne : p ≠ d := by intro e; subst e; rw [hd] at h1; cases h1
    exact ⟨p, ys, rfl, by rw [upd_ne ne]; exact h1, n, RVs.unlock hd h2⟩
  | .dct ks vs, _, r => by
    obtain ⟨p, kvs', rfl, h1, n, hk, ok, h2⟩ := r
    by_cases e : p = d
    · have e' := e.symm
      subst e'
      rw [rd_fz hd h1.2] at hk h2
      exact ⟨d, kvs, rfl, .of upd_same, n, hk, ok, RVs.unlock hd h2⟩
    · exact ⟨p, kvs', rfl, ⟨fun z => by rw [upd_ne e]; exact h1.1 fun q => q.elim z e, Rd.upd e h1.2⟩, n, hk, ok, RVs.unlock hd h2⟩
  | .fro xs, _, r => by
    obtain ⟨p, ys, rfl, h1, h2⟩ := r
    refine ⟨p, ys, rfl, ?_, RVs.unlock hd h2⟩
    rcases h1 with ⟨h1, n⟩ | h1
    · have ne : p ≠ d := by
        intro e; subst e
        rcases h1 with h1 | ⟨o, h1⟩ <;> rw [hd] at h1 <;> cases h1
      exact .inl ⟨Rd.upd ne h1, n⟩
    · exact .inr h1
theorem RVs.unlock (hd : H d = some (.frz od (.dK kvs))) : ∀ {vs : List EV} {xs : List V}, RVs K (N.lk d) ρ H vs xs → RVs K N ρ (upd H d (.dK kvs)) vs xs
  | [], _, r => r
  | v :: vs, _, r => by
    obtain ⟨y, q, rfl, h1, h2⟩ := r
    exact ⟨y, q, rfl, RV.unlock hd h1, RVs.unlock hd h2⟩
end
theorem RH.lock (hd : H d = some (.dK kvs)) (nd : d ∉ ρ) (r : RH K N ρ H h) : RH K (N.lk d) ρ (upd H d (.frz od (.dK kvs))) h where
  len := r.len
  nd := r.nd
  obj := fun n a xs e1 e2 => by
    obtain ⟨ys, h1, h2⟩ := r.obj n a xs e1 e2
    have ne : a ≠ d := by intro e; subst e; exact nd (List.mem_of_getElem? e1)
    exact ⟨ys, by rw [upd_ne ne]; exact h1, RVs.lock hd h2⟩
  trk := fun a q => by
    by_cases e : a = d
    · subst e; exact ⟨_, upd_same⟩
    · rw [upd_ne e]; exact r.trk a q
theorem RH.unlock (hd : H d = some (.frz od (.dK kvs))) (nd : d ∉ ρ) (r : RH K (N.lk d) ρ H h) : RH K N ρ (upd H d (.dK kvs)) h where
  len := r.len
  nd := r.nd
  obj := fun n a xs e1 e2 => by
    obtain ⟨ys, h1, h2⟩ := r.obj n a xs e1 e2
    have ne : a ≠ d := by intro e; subst e; exact nd (List.mem_of_getElem? e1)
    exact ⟨ys, by rw [upd_ne ne]; exact h1, RVs.unlock hd h2⟩
  trk := fun a q => by
    by_cases e : a = d
    · subst e; exact ⟨_, upd_same⟩
    · rw [upd_ne e]; exact r.trk a q
theorem SE.lock (hd : H d = some (.dK kvs)) (nd : d ∉ ρ) (s : SE K N ρ env h σ H) : SE K (N.lk d) ρ env h σ (upd H d (.frz od (.dK kvs))) where
  rh := s.rh.lock hd nd
  len := s.len
  val := fun i v q => by
    obtain ⟨x, h1, h2⟩ := s.val i v q
    exact ⟨x, h1, RV.lock hd h2⟩
  ol := fun i xs q => by
    obtain ⟨a, ys, h1, h2, h3, h4⟩ := s.ol i xs q
    have ne : a ≠ d := by intro e; subst e; rw [hd] at h2; cases h2
    exact ⟨a, ys, h1, by rw [upd_ne ne]; exact h2, h3, RVs.lock hd h4⟩
  od := fun i ks vs q => by
    obtain ⟨a, kvs', h1, h2, h3, h4, h5, h6⟩ := s.od i ks vs q
    by_cases e : a = d
    · subst e
      have := (rd_dk hd h2.2).symm
      subst this
      exact ⟨a, kvs, h1, ⟨fun z => (z (Or.inr rfl)).elim, .inr ⟨od, upd_same⟩⟩, h3, h4, h5, RVs.lock hd h6⟩
    · exact ⟨a, kvs', h1, ⟨fun z => by rw [upd_ne e]; exact h2.1 fun q => z (Or.inl q), Rd.upd e h2.2⟩, h3, h4, h5, RVs.lock hd h6⟩
theorem Ext.unlock (hd : H d = some (.dK kvs)) (nd : d ∉ ρ) (e : Ext K ρ (upd H d (.frz od (.dK kvs))) ρ1 H1) : H1 d = some (.frz od (.dK kvs)) ∧ d ∉ ρ1 ∧ Ext K ρ H ρ1 (upd H1 d (.dK kvs)) := by
  have hd1 : H1 d = some (.frz od (.dK kvs)) := e.keep _ _ upd_same nd trivial
  refine ⟨hd1, e.avoid upd_same nd, ⟨e.pre, fun a m => ?_, fun a o q n t => ?_, fun a ps q => ?_, fun p ys q => ?_, fun a m => ?_, fun P t => ?_⟩⟩
  · rcases e.fresh a m with z | z
    · exact .inl z
    · by_cases ea : a = d
      · subst ea; rw [upd_same] at z; cases z
      · rw [upd_ne ea] at z; exact .inr z
  · by_cases ea : a = d
    · subst ea; rw [hd] at q; cases q; exact upd_same
    · rw [upd_ne ea]; exact e.keep a o (by rw [upd_ne ea]; exact q) n t
  · have ea : a ≠ d := by intro z; subst z; rw [hd] at q; cases q
    rw [upd_ne ea]; exact e.tbl a ps (by rw [upd_ne ea]; exact q)
  · exact sqT_fz hd1 (e.tups p ys (sqT_upd (zs := []) (.inr ⟨_, hd⟩) q))
  · by_cases ea : a = d
    · subst ea; exact ⟨_, upd_same⟩
    · rw [upd_ne ea]; exact e.shr a m
  · have t1 : LamX.TabS (upd H d (.frz od (.dK kvs))) P lamQ := tabS_of t fun b o z k => by
      by_cases hb : b = d
      · subst hb
        rw [hd] at z; cases z; rcases k with ⟨ps, k⟩ | ⟨c, q, k⟩ <;> cases k
      · rw [upd_ne hb]; exact z
    exact tabS_of (e.tabs P t1) fun b o z k => by
      by_cases hb : b = d
      · subst hb
        rw [hd1] at z; cases z; rcases k with ⟨ps, k⟩ | ⟨c, q, k⟩ <;> cases k
      · rw [upd_ne hb]; exact z
end
theorem comps_exc {t : Ev.T} {mt me : M} {env : Ev.Env} {c : Nat} {h2 : Hh} : ∀ {xs acc : List EV} {h : Hh}, comps t mt me env xs acc h ≠ .exc c h2
  | [], acc, h, e => by cases e
  | v :: r, acc, h, e => by
    unfold comps at e
    split at e
    · split at e
      · split at e
        · split at e
          · exact comps_exc e
          · cases e
        · cases e
      · exact comps_exc e
      · cases e
    · cases e
def notSet : Expr → Bool
  | .Set _ _ _ => false
  | _ => true
theorem fold_of {e : Expr} {env : PySem.Env} (h : notSet e = true) : ∀ x, foldedSetIterable e env x = pure x := fun x => by
  cases e <;> first | rfl | exact absurd h (by simp [notSet])
def mKeys (i : Nat) : MN := fun env h => (match Ev.valAt env i with
    | some (.dct ks _) => .ok (ks.map kEV) h
    | _ => .bad)
def mKeysO (i : Nat) : MN := fun env h => (match env[i]? with
    | some (some (.oD ks _)) => .ok (ks.map kEV) h
    | _ => .bad)
section
variable {X : Cx} {W : Nat → Hp → Prop} {fz : Bool} {elt tg iter : Expr} {ifs : List Expr} {scope : Scope} {own : List (Str × Nat)} {pos : Pos} {t : Ev.T} {ms : MN} {mt me : M}
theorem Pcomp (hc : X.calm = true) (hN : X.N.Nodup) (hi : PI X tg iter (tI X.K W fz ms)) (ok : BlkOk X.N X.env.scope scope own) (hsl : ∀ i ∈ slots t, i ∈ own.map (·.2))
    (hg : ∀ (s : Shared) (H : Hp) (C : Addr) (cl : List (Str × Addr)) (fp : List Addr), PG (X.blk s H scope (compEnvC scope cl C X.env) fp) tg (gE X.K t))
    (ht : ∀ (s : Shared) (H : Hp) (C : Addr) (cl : List (Str × Addr)) (fp : List Addr), PTs (X.blk s H scope (compEnvC scope cl C X.env) fp) ifs (tT X.K (fun _ _ => False) fz mt))
    (he : ∀ (s : Shared) (H : Hp) (C : Addr) (cl : List (Str × Addr)) (fp : List Addr), PE (X.blk s H scope (compEnvC scope cl C X.env) fp) elt (tM X.K (fun _ _ => False) fz me)) (hs : notSet iter = true) :
    PE X (.ListComp elt [⟨tg, iter, ifs, 0⟩] scope pos) (tM X.K W fz (mComp t (own.map (·.2)) ms mt me)) :=
  PEi (pe_lc hc hN hi ok hg ht he (fold_of hs)) fun σ H Q ⟨N, ρ, env, h, se, nf, q⟩ => ⟨N, ρ, env, h, se, nf, og_mono (og_bind q) fun xs h1 ρ1 H1 _ e1 rh1 q1 J hJ D hD => comp_core hsl (se.mono e1 rh1) nf q1 hJ hD⟩
/-- a comprehension over the keys of a dict that stands in a slot -/
theorem keys_core {σ : L2.St} {H : Hp} {Q : VK} {N : Nz} {ρ : List Addr} {env : Ev.Env} {h : Hh} {i : Nat} {d : Addr} {kvs : List (Key × V)} {ks : List K0} (hsl : ∀ i ∈ slots t, i ∈ own.map (·.2)) (se : SE X.K N ρ env h σ H)
    (hi : σ[i]? = some (some (.ref d))) (hd : H d = some (.dK kvs)) (nd : d ∉ ρ) (hk : kvs.map (·.1) = ks.map toK) (kok : KOk ks)
    (q : og X.K W N ρ H ((comps t mt me (Ev.wipe env (own.map (·.2))) (ks.map kEV) [] h).bind fun ys h => .ok (.lst ys) h) (gv X.K N Q)) :
    tLockE (tLc (iKeys (tVar i)) (gE X.K t) (tT X.K (fun _ _ => False) false mt) (tM X.K (fun _ _ => False) false me) (own.map (·.2))) σ H Q := by
  refine ⟨d, .dK kvs, hd, trivial, fun od => ?_⟩
  refine ⟨.ref d, hi, d, od, rfl, .inl ⟨kvs, upd_same, fun D hD => ?_⟩⟩
  refine comp_core (W := W) (fz' := false) (N := N.lk d) (h1 := h) (xs := ks.map kEV) (mt := mt) (me := me) (Q := fun v H' => H' d = some (HO.frz od (HO.dK kvs)) ∧ Q v (L2.upd H' d (HO.dK kvs))) hsl (se.lock hd nd) (fun z => by cases z) ?_ (.keys upd_same nd hk kok) hD
  -- the end, behind the lock
  cases e : (comps t mt me (Ev.wipe env (own.map (·.2))) (ks.map kEV) [] h) with
  | bad => rw [e] at q; exact (show False from q).elim
  | exc c h2 => exact (comps_exc e).elim
  | ok ys h2 =>
    rw [e] at q
    intro ρ' H' ex rh x rx
    obtain ⟨hd', nd', ex'⟩ := ex.unlock hd nd
    exact ⟨hd', q ρ' _ ex' (rh.unlock hd' nd') x (RV.unlock hd' rx)⟩
theorem PcompK {i : Nat} {x : Str} {p2 : Pos} (hc : X.calm = true) (hN : X.N.Nodup) (hz : fz = true) (hx : X.N[i]? = some x) (hv : Vis X.env.scope x) (hd : (x == ("__debug__" : Str)) = false) (hcd : (x == ("__classdict__" : Str)) = false) (ok : BlkOk X.N X.env.scope scope own) (hsl : ∀ i ∈ slots t, i ∈ own.map (·.2))
    (hg : ∀ (s : Shared) (H : Hp) (C : Addr) (cl : List (Str × Addr)) (fp : List Addr), PG (X.blk s H scope (compEnvC scope cl C X.env) fp) tg (gE X.K t))
    (ht : ∀ (s : Shared) (H : Hp) (C : Addr) (cl : List (Str × Addr)) (fp : List Addr), PTs (X.blk s H scope (compEnvC scope cl C X.env) fp) ifs (tT X.K (fun _ _ => False) false mt))
    (he : ∀ (s : Shared) (H : Hp) (C : Addr) (cl : List (Str × Addr)) (fp : List Addr), PE (X.blk s H scope (compEnvC scope cl C X.env) fp) elt (tM X.K (fun _ _ => False) false me)) :
    PE X (.ListComp elt [⟨tg, .Name x p2, ifs, 0⟩] scope pos) (tM X.K W fz (mComp t (own.map (·.2)) (mKeys i) mt me)) := by
  refine PEi (pe_lock (pe_lc hc hN (pi_keys (pe_var hx hv hd hcd)) ok hg ht he (fold_of rfl))) fun σ H Q ⟨N, ρ, env, h, se, nf, q⟩ => ?_
  unfold mComp mKeys at q
  split at q
  · rename_i ks vs e
    have e' : env[i]? = some (some (SV.val (.dct ks vs))) := by
      unfold Ev.valAt at e
      split at e
      · rename_i w hw; cases e; exact hw
      · cases e
    obtain ⟨x, h1, d, kvs, rfl, hp, hn, hk, kok, ra⟩ := se.val i _ e'
    exact keys_core hsl se h1 (hp.1 (nf hz d)) hn.2 hk kok q
  · exact (show False from q).elim
theorem PcompO {i : Nat} {x : Str} {p2 : Pos} (hc : X.calm = true) (hN : X.N.Nodup) (hz : fz = true) (hx : X.N[i]? = some x) (hv : Vis X.env.scope x) (hd : (x == ("__debug__" : Str)) = false) (hcd : (x == ("__classdict__" : Str)) = false) (ok : BlkOk X.N X.env.scope scope own) (hsl : ∀ i ∈ slots t, i ∈ own.map (·.2))
    (hg : ∀ (s : Shared) (H : Hp) (C : Addr) (cl : List (Str × Addr)) (fp : List Addr), PG (X.blk s H scope (compEnvC scope cl C X.env) fp) tg (gE X.K t))
    (ht : ∀ (s : Shared) (H : Hp) (C : Addr) (cl : List (Str × Addr)) (fp : List Addr), PTs (X.blk s H scope (compEnvC scope cl C X.env) fp) ifs (tT X.K (fun _ _ => False) false mt))
    (he : ∀ (s : Shared) (H : Hp) (C : Addr) (cl : List (Str × Addr)) (fp : List Addr), PE (X.blk s H scope (compEnvC scope cl C X.env) fp) elt (tM X.K (fun _ _ => False) false me)) :
    PE X (.ListComp elt [⟨tg, .Name x p2, ifs, 0⟩] scope pos) (tM X.K W fz (mComp t (own.map (·.2)) (mKeysO i) mt me)) := by
  refine PEi (pe_lock (pe_lc hc hN (pi_keys (pe_var hx hv hd hcd)) ok hg ht he (fold_of rfl))) fun σ H Q ⟨N, ρ, env, h, se, nf, q⟩ => ?_
  unfold mComp mKeysO at q
  split at q
  · rename_i ks vs e
    obtain ⟨d, kvs, h1, hp, hn, hk, kok, ra⟩ := se.od i ks vs e
    exact keys_core hsl se h1 (hp.1 (nf hz d)) hn hk kok q
  · exact (show False from q).elim
end
end EvS
end
section
set_option Elab.async false
set_option linter.all false
set_option maxRecDepth 100000
set_option maxHeartbeats 1000000
/-! EvZ: states at statements; what statements do. -/
namespace EvS
open PySem PySem.Spec PyProof.Rows L2 Ev
def LD (o : Option HO) : Prop := (∃ ys, o = some (.lst ys)) ∨ ∃ kvs, o = some (.dK kvs)
/-- slot i holds a list or dict that this def builds -/
def ownA (env : Ev.Env) (i : Nat) : Prop := (∃ xs, env[i]? = some (some (SV.oL xs))) ∨ ∃ ks vs, env[i]? = some (some (SV.oD ks vs))
/-- N0, ρ0, H0: as at the entry; Ld: what is held; N: N0's and the lists and dicts that are built here -/
structure SS (K : PySem.W.Frag) (TP : List Addr) (N0 : Nz) (ρ0 : List Addr) (H0 : Hp) (Ld : List (EV × V)) (N : Nz) (ρ : List Addr) (env : Ev.Env) (h : Hh) (σ : L2.St) (H : Hp) : Prop where
  unl0 : ∀ p, ¬ N0.z p
  unl : ∀ p, ¬ N.z p
  trk : ∀ b, N0.a b → ∃ o, H0 b = some o
  sub : ∀ b, N0.a b → N.a b
  knd : ∀ b, N.a b → N0.a b ∨ (H0 b = none ∧ b ∉ ρ ∧ LD (H b))
  ext : Ext K ρ0 H0 ρ H
  se : SE K N ρ env h σ H
  own : ∀ i a, ownA env i → σ[i]? = some (some (V.ref a)) → N.a a ∧ H0 a = none
  dst : ∀ i j a, ownA env i → ownA env j → σ[i]? = some (some (V.ref a)) → σ[j]? = some (some (V.ref a)) → i = j
  held : ∀ p ∈ Ld, RV K N ρ H p.1 p.2
  tab : Tbs TP H0
section
variable {K : PySem.W.Frag} {TP : List Addr} {W : Nat → Hp → Prop} {N0 N : Nz} {ρ0 ρ ρ1 : List Addr} {H0 H H1 : Hp} {h h1 : Hh} {env : Ev.Env} {σ : L2.St} {Ld : List (EV × V)} {a : Addr} {i : Nat}
theorem LD.keep {b : Addr} (e : Ext K ρ H ρ1 H1) (n : b ∉ ρ) (q : LD (H b)) : LD (H1 b) := by
  rcases q with ⟨ys, q⟩ | ⟨kvs, q⟩
  · exact .inl ⟨ys, e.keep _ _ q n trivial⟩
  · exact .inr ⟨kvs, e.keep _ _ q n trivial⟩
theorem LD.some {b : Addr} (q : LD (H b)) : ∃ o, H b = some o := by
  rcases q with ⟨ys, q⟩ | ⟨kvs, q⟩
  · exact ⟨_, q⟩
  · exact ⟨_, q⟩
theorem SS.rh0 (s : SS K TP N0 ρ0 H0 Ld N ρ env h σ H) : RH K N0 ρ H h := s.se.rh.sub s.sub fun p z => (s.unl p z).elim
theorem SS.rv0 (s : SS K TP N0 ρ0 H0 Ld N ρ env h σ H) {v : EV} {x : V} (r : RV K N ρ H v x) : RV K N0 ρ H v x := RV.sub s.se.rh ⟨fun b z => .inl (s.sub b z), fun p z => (s.unl p z).elim⟩ r
theorem SS.mono (s : SS K TP N0 ρ0 H0 Ld N ρ env h σ H) (e : Ext K ρ H ρ1 H1) (r : RH K N ρ1 H1 h1) : SS K TP N0 ρ0 H0 Ld N ρ1 env h1 σ H1 where
  unl0 := s.unl0
  unl := s.unl
  trk := s.trk
  sub := s.sub
  knd := fun b q => by
    rcases s.knd b q with q | ⟨h1, h2, h3⟩
    · exact .inl q
    · obtain ⟨o, ho⟩ := LD.some h3
      exact .inr ⟨h1, e.avoid ho h2, h3.keep e h2⟩
  ext := s.ext.trans e
  se := s.se.mono e r
  own := s.own
  dst := s.dst
  held := fun p q => RV.mono e Nle.rfl (s.held p q)
  tab := s.tab
/-- a new list or dict is avoided from here on -/
theorem SS.add (s : SS K TP N0 ρ0 H0 Ld N ρ env h σ H) (e : Ext K ρ H ρ1 H1) (ha : H a = none) (na : a ∉ ρ1) (hl : LD (H1 a)) (r : RH K ⟨fun b => N.a b ∨ b = a, N.z⟩ ρ1 H1 h1) :
    SS K TP N0 ρ0 H0 Ld ⟨fun b => N.a b ∨ b = a, N.z⟩ ρ1 env h1 σ H1 where
  unl0 := s.unl0
  unl := s.unl
  trk := s.trk
  sub := fun b q => .inl (s.sub b q)
  knd := fun b q => by
    rcases q with q | q
    · rcases s.knd b q with q | ⟨h1, h2, h3⟩
      · exact .inl q
      · obtain ⟨o, ho⟩ := LD.some h3
        exact .inr ⟨h1, e.avoid ho h2, h3.keep e h2⟩
    · subst q; exact .inr ⟨none_back s.ext ha, na, hl⟩
  ext := s.ext.trans e
  se := s.se.monoN e r (.new ha)
  own := fun i b q z => ⟨.inl (s.own i b q z).1, (s.own i b q z).2⟩
  dst := s.dst
  held := fun p q => RV.mono e (.new ha) (s.held p q)
  tab := s.tab
theorem ownA_set {v : EV} {i j : Nat} (q : ownA (env.set i (some (SV.val v))) j) : j ≠ i ∧ ownA env j := by
  have key : ∀ w, (∀ v, w ≠ SV.val v) → (env.set i (some (SV.val v)))[j]? = some (some w) → j ≠ i ∧ env[j]? = some (some w) := fun w hw e => by
    by_cases hji : j = i
    · subst hji
      by_cases hl : j < env.length
      · rw [List.getElem?_set_self hl] at e
        cases e; exact (hw v rfl).elim
      · rw [List.getElem?_eq_none (by rw [List.length_set]; omega)] at e
        cases e
    · rw [List.getElem?_set_ne (Ne.symm hji)] at e
      exact ⟨hji, e⟩
  rcases q with ⟨xs, q⟩ | ⟨ks, vs, q⟩
  · obtain ⟨h1, h2⟩ := key _ (by intro v; simp) q
    exact ⟨h1, .inl ⟨xs, h2⟩⟩
  · obtain ⟨h1, h2⟩ := key _ (by intro v; simp) q
    exact ⟨h1, .inr ⟨ks, vs, h2⟩⟩
theorem SS.set {v : EV} {x : V} (s : SS K TP N0 ρ0 H0 Ld N ρ env h σ H) (r : RV K N ρ H v x) : SS K TP N0 ρ0 H0 Ld N ρ (env.set i (some (.val v))) h (σ.set i (some x)) H where
  unl0 := s.unl0
  unl := s.unl
  trk := s.trk
  sub := s.sub
  knd := s.knd
  ext := s.ext
  se := s.se.set r
  own := fun j b q z => by
    obtain ⟨h1, h2⟩ := ownA_set q
    rw [List.getElem?_set_ne (Ne.symm h1)] at z
    exact s.own j b h2 z
  dst := fun j k b q1 q2 z1 z2 => by
    obtain ⟨h1, h2⟩ := ownA_set q1
    obtain ⟨h3, h4⟩ := ownA_set q2
    rw [List.getElem?_set_ne (Ne.symm h1)] at z1
    rw [List.getElem?_set_ne (Ne.symm h3)] at z2
    exact s.dst j k b h2 h4 z1 z2
  held := s.held
  tab := s.tab
/-- what an own slot's list or dict looks like -/
def OV (K : PySem.W.Frag) (N : Nz) (ρ : List Addr) (H : Hp) (w : SV) (a : Addr) : Prop := match w with
  | .oL xs => ∃ ys, H a = some (.lst ys) ∧ a ∉ ρ ∧ RVs K N ρ H xs ys
  | .oD ks vs => ∃ kvs, H a = some (.dK kvs) ∧ a ∉ ρ ∧ kvs.map (·.1) = ks.map toK ∧ KOk ks ∧ RVs K N ρ H vs (kvs.map (·.2))
  | .val _ => False
theorem set_own {w : SV} {j : Nat} {w' : SV} (e : (env.set i (some w))[j]? = some (some w')) : (j = i ∧ w' = w ∧ i < env.length) ∨ (j ≠ i ∧ env[j]? = some (some w')) := by
  by_cases hji : j = i
  · subst hji
    by_cases hl : j < env.length
    · rw [List.getElem?_set_self hl] at e
      cases e; exact .inl ⟨rfl, rfl, hl⟩
    · rw [List.getElem?_eq_none (by rw [List.length_set]; omega)] at e
      cases e
  · rw [List.getElem?_set_ne (Ne.symm hji)] at e
    exact .inr ⟨hji, e⟩
theorem SE.setO {w : SV} (s : SE K N ρ env h σ H) (r : OV K N ρ H w a) : SE K N ρ (env.set i (some w)) h (σ.set i (some (.ref a))) H where
  rh := s.rh
  len := by rw [List.length_set, List.length_set]; exact s.len
  val := fun j v e => by
    rcases set_own e with ⟨rfl, e, hl⟩ | ⟨hj, e⟩
    · cases e; exact r.elim
    · rw [List.getElem?_set_ne (Ne.symm hj)]
      exact s.val j v e
  ol := fun j xs e => by
    rcases set_own e with ⟨rfl, e, hl⟩ | ⟨hj, e⟩
    · cases e
      obtain ⟨ys, h1, h2, h3⟩ := r
      exact ⟨a, ys, List.getElem?_set_self (by rw [← s.len]; exact hl), h1, h2, h3⟩
    · rw [List.getElem?_set_ne (Ne.symm hj)]
      exact s.ol j xs e
  od := fun j ks vs e => by
    rcases set_own e with ⟨rfl, e, hl⟩ | ⟨hj, e⟩
    · cases e
      obtain ⟨kvs, h1, h2, h3, h4, h5⟩ := r
      exact ⟨a, kvs, List.getElem?_set_self (by rw [← s.len]; exact hl), .of h1, h2, h3, h4, h5⟩
    · rw [List.getElem?_set_ne (Ne.symm hj)]
      exact s.od j ks vs e
theorem ownA_setO {w : SV} {j : Nat} (q : ownA (env.set i (some w)) j) : j = i ∨ (j ≠ i ∧ ownA env j) := by
  rcases q with ⟨xs, q⟩ | ⟨ks, vs, q⟩
  · rcases set_own q with ⟨h1, _⟩ | ⟨h1, h2⟩
    · exact .inl h1
    · exact .inr ⟨h1, .inl ⟨xs, h2⟩⟩
  · rcases set_own q with ⟨h1, _⟩ | ⟨h1, h2⟩
    · exact .inl h1
    · exact .inr ⟨h1, .inr ⟨ks, vs, h2⟩⟩
theorem set_ref {x : V} {j : Nat} {y : V} (e : (σ.set i (some x))[j]? = some (some y)) : (j = i ∧ y = x) ∨ (j ≠ i ∧ σ[j]? = some (some y)) := by
  by_cases hji : j = i
  · subst hji
    by_cases hl : j < σ.length
    · rw [List.getElem?_set_self hl] at e
      cases e; exact .inl ⟨rfl, rfl⟩
    · rw [List.getElem?_eq_none (by rw [List.length_set]; omega)] at e
      cases e
  · rw [List.getElem?_set_ne (Ne.symm hji)] at e
    exact .inr ⟨hji, e⟩
theorem SS.setO {w : SV} (s : SS K TP N0 ρ0 H0 Ld N ρ env h σ H) (na : N.a a) (h0 : H0 a = none) (un : ∀ j, ownA env j → σ[j]? = some (some (V.ref a)) → j = i) (r : OV K N ρ H w a) :
    SS K TP N0 ρ0 H0 Ld N ρ (env.set i (some w)) h (σ.set i (some (.ref a))) H where
  unl0 := s.unl0
  unl := s.unl
  trk := s.trk
  sub := s.sub
  knd := s.knd
  ext := s.ext
  se := s.se.setO r
  own := fun j b q z => by
    rcases set_ref z with ⟨_, z⟩ | ⟨hj, z⟩
    · cases z; exact ⟨na, h0⟩
    · rcases ownA_setO q with q | ⟨_, q⟩
      · exact (hj q).elim
      · exact s.own j b q z
  dst := fun j k b q1 q2 z1 z2 => by
    rcases set_ref z1 with ⟨e1, z1⟩ | ⟨e1, z1⟩ <;> rcases set_ref z2 with ⟨e2, z2⟩ | ⟨e2, z2⟩
    · rw [e1, e2]
    · cases z1
      rcases ownA_setO q2 with q | ⟨_, q⟩
      · exact (e2 q).elim
      · rw [e1]; exact (un k q z2).symm
    · cases z2
      rcases ownA_setO q1 with q | ⟨_, q⟩
      · exact (e1 q).elim
      · rw [e2]; exact un j q z1
    · rcases ownA_setO q1 with q | ⟨_, q⟩
      · exact (e1 q).elim
      · rcases ownA_setO q2 with q' | ⟨_, q'⟩
        · exact (e2 q').elim
        · exact s.dst j k b q q' z1 z2
  held := s.held
  tab := s.tab
end
end EvS
end
section
set_option Elab.async false
set_option linter.all false
set_option maxRecDepth 100000
set_option maxHeartbeats 1000000
/-! EvA: own lists and dicts are written, are let go; what a statement's end is. -/
namespace EvS
open PySem PySem.Spec PyProof.Rows L2 Ev
section
variable {K : PySem.W.Frag} {TP : List Addr} {W : Nat → Hp → Prop} {N0 N : Nz} {ρ0 ρ ρ1 : List Addr} {H0 H H1 : Hp} {h h1 : Hh} {env : Ev.Env} {σ : L2.St} {Ld : List (EV × V)} {a : Addr} {i : Nat}
theorem RV.updA {v : EV} {x : V} {o : HO} (na : N.a a) (hl : LD (H a)) (r : RV K N ρ H v x) : RV K N ρ (upd H a o) v x := by
  rcases hl with ⟨zs, hl⟩ | hl
  · exact RV.updN na (.inl hl) r
  · exact RV.updN (zs := []) na (.inr hl) r
theorem RVs.updA {v : List EV} {x : List V} {o : HO} (na : N.a a) (hl : LD (H a)) (r : RVs K N ρ H v x) : RVs K N ρ (upd H a o) v x := by
  rcases hl with ⟨zs, hl⟩ | hl
  · exact RVs.updN na (.inl hl) r
  · exact RVs.updN (zs := []) na (.inr hl) r
theorem RH.updA {o : HO} (na : N.a a) (nρ : a ∉ ρ) (hl : LD (H a)) (r : RH K N ρ H h) : RH K N ρ (upd H a o) h := by
  rcases hl with ⟨zs, hl⟩ | hl
  · exact r.updN na nρ (.inl hl)
  · exact r.updN (zs := []) na nρ (.inr hl)
theorem Ext.updA {o : HO} (e : Ext K ρ0 H0 ρ H) (h0 : H0 a = none) (nρ : a ∉ ρ) (hl : LD (H a)) : Ext K ρ0 H0 ρ (upd H a o) := by
  rcases hl with ⟨zs, hl⟩ | hl
  · exact e.updN h0 nρ (.inl hl)
  · exact e.updN (zs := []) h0 nρ (.inr hl)
theorem SS.upd {w : SV} {o : HO} (s : SS K TP N0 ρ0 H0 Ld N ρ env h σ H) (oi : ownA env i) (ei : σ[i]? = some (some (V.ref a))) (nρ : a ∉ ρ) (hl : LD (H a)) (ho : LD (some o)) (r : OV K N ρ (upd H a o) w a) :
    SS K TP N0 ρ0 H0 Ld N ρ (env.set i (some w)) h σ (upd H a o) := by
  obtain ⟨na, h0⟩ := s.own i a oi ei
  refine ⟨s.unl0, s.unl, s.trk, s.sub, ?_, s.ext.updA h0 nρ hl, ?_, ?_, ?_, fun p q => RV.updA na hl (s.held p q), s.tab⟩
  · intro b q
    rcases s.knd b q with q | ⟨h1, h2, h3⟩
    · exact .inl q
    · refine .inr ⟨h1, h2, ?_⟩
      by_cases e : b = a
      · subst e; rw [upd_same]; exact ho
      · rw [upd_ne e]; exact h3
  · refine ⟨s.se.rh.updA na nρ hl, by rw [List.length_set]; exact s.se.len, ?_, ?_, ?_⟩
    · intro j v e
      rcases set_own e with ⟨rfl, e, _⟩ | ⟨hj, e⟩
      · cases e; exact r.elim
      · obtain ⟨x, h1, h2⟩ := s.se.val j v e
        exact ⟨x, h1, RV.updA na hl h2⟩
    · intro j xs e
      rcases set_own e with ⟨rfl, e, _⟩ | ⟨hj, e⟩
      · cases e
        obtain ⟨ys, h1, h2, h3⟩ := r
        exact ⟨a, ys, ei, h1, h2, h3⟩
      · obtain ⟨b, ys, h1, h2, h3, h4⟩ := s.se.ol j xs e
        have ne : b ≠ a := fun z => hj (s.dst j i b (.inl ⟨xs, e⟩) oi h1 (by rw [z]; exact ei))
        exact ⟨b, ys, h1, by rw [upd_ne ne]; exact h2, h3, RVs.updA na hl h4⟩
    · intro j ks vs e
      rcases set_own e with ⟨rfl, e, _⟩ | ⟨hj, e⟩
      · cases e
        obtain ⟨kvs, h1, h2, h3, h4, h5⟩ := r
        exact ⟨a, kvs, ei, .of h1, h2, h3, h4, h5⟩
      · obtain ⟨b, kvs, h1, h2, h3, h4, h5, h6⟩ := s.se.od j ks vs e
        have ne : b ≠ a := fun z => hj (s.dst j i b (.inr ⟨ks, vs, e⟩) oi h1 (by rw [z]; exact ei))
        exact ⟨b, kvs, h1, .of (by rw [upd_ne ne]; exact h2.1 (s.unl b)), h3, h4, h5, RVs.updA na hl h6⟩
  · intro j b q z
    rcases ownA_setO q with q | ⟨_, q⟩
    · subst q; exact s.own j b oi z
    · exact s.own j b q z
  · intro j k b q1 q2 z1 z2
    have f : ∀ j, ownA (env.set i (some w)) j → ownA env j := fun j q => by
      rcases ownA_setO q with q | ⟨_, q⟩
      · subst q; exact oi
      · exact q
    exact s.dst j k b (f j q1) (f k q2) z1 z2
/-- an own list or dict is a value from here on -/
theorem SS.free {v : EV} (s : SS K TP N0 ρ0 H0 Ld N ρ env h σ H) (oi : ownA env i) (ei : σ[i]? = some (some (V.ref a))) (r : RV K ⟨fun b => N.a b ∧ b ≠ a, N.z⟩ ρ H v (.ref a)) :
    SS K TP N0 ρ0 H0 Ld ⟨fun b => N.a b ∧ b ≠ a, N.z⟩ ρ (env.set i (some (.val v))) h σ H := by
  obtain ⟨na, h0⟩ := s.own i a oi ei
  have le : Nle ⟨fun b => N.a b ∧ b ≠ a, N.z⟩ N H := ⟨fun b q => .inl q.1, fun _ z => z⟩
  have rh : RH K ⟨fun b => N.a b ∧ b ≠ a, N.z⟩ ρ H h := s.se.rh.sub (fun b q => q.1) fun _ z => z
  have hs : σ.set i (some (.ref a)) = σ := by
    refine List.ext_getElem? fun j => ?_
    by_cases e : i = j
    · subst e
      have hl : i < σ.length := (List.getElem?_eq_some_iff.mp ei).1
      rw [List.getElem?_set_self hl, ei]
    · rw [List.getElem?_set_ne e]
  refine ⟨s.unl0, s.unl, s.trk, fun b q => ⟨s.sub b q, fun z => ?_⟩, fun b q => s.knd b q.1, s.ext, ?_, ?_, ?_, fun p q => RV.mono s.se.rh.refl le (s.held p q), s.tab⟩
  · subst z
    obtain ⟨o, ho⟩ := s.trk b q
    rw [h0] at ho; cases ho
  · have s1 := (s.se.monoN s.se.rh.refl rh le).set (i := i) r
    rw [hs] at s1; exact s1
  · intro j b q z
    obtain ⟨h1, h2⟩ := ownA_set q
    obtain ⟨h3, h4⟩ := s.own j b h2 z
    exact ⟨⟨h3, fun e => h1 (s.dst j i b h2 oi z (by rw [e]; exact ei))⟩, h4⟩
  · intro j k b q1 q2 z1 z2
    exact s.dst j k b (ownA_set q1).2 (ownA_set q2).2 z1 z2
theorem SS.freeL {xs : List EV} (s : SS K TP N0 ρ0 H0 Ld N ρ env h σ H) (e : env[i]? = some (some (SV.oL xs))) : ∃ N1, SS K TP N0 ρ0 H0 Ld N1 ρ (env.set i (some (.val (.lst xs)))) h σ H := by
  obtain ⟨a, ys, h1, h2, h3, h4⟩ := s.se.ol i xs e
  refine ⟨⟨fun b => N.a b ∧ b ≠ a, N.z⟩, s.free (.inl ⟨xs, e⟩) h1 ⟨a, ys, rfl, h2, ⟨fun z => z.2 rfl, h3⟩, RVs.mono (N' := ⟨fun b => N.a b ∧ b ≠ a, N.z⟩) s.se.rh.refl ⟨fun b q => .inl q.1, fun _ z => z⟩ h4⟩⟩
theorem SS.freeD {ks : List K0} {vs : List EV} (s : SS K TP N0 ρ0 H0 Ld N ρ env h σ H) (e : env[i]? = some (some (SV.oD ks vs))) : ∃ N1, SS K TP N0 ρ0 H0 Ld N1 ρ (env.set i (some (.val (.dct ks vs)))) h σ H := by
  obtain ⟨a, kvs, h1, h2, h3, h4, h5, h6⟩ := s.se.od i ks vs e
  refine ⟨⟨fun b => N.a b ∧ b ≠ a, N.z⟩, s.free (.inr ⟨ks, vs, e⟩) h1 ⟨a, kvs, rfl, h2, ⟨fun z => z.2 rfl, h3⟩, h4, h5, RVs.mono (N' := ⟨fun b => N.a b ∧ b ≠ a, N.z⟩) s.se.rh.refl ⟨fun b q => .inl q.1, fun _ z => z⟩ h6⟩⟩
/-! ### a list becomes a shared list -/
mutual
theorem RV.share (na : N.a a) : ∀ {v : EV} {x : V}, RV K N ρ H v x → RV K ⟨fun b => N.a b ∧ b ≠ a, N.z⟩ (ρ ++ [a]) H v x
  | .non, _, r => r
  | .bl _, _, r => r
  | .int _, _, r => r
  | .str _, _, r => r
  | .rep _, _, r => r
  | .ref n, _, r => by
    obtain ⟨p, rfl, e⟩ := r
    exact ⟨p, rfl, by rw [List.getElem?_append_left (List.getElem?_eq_some_iff.mp e).1]; exact e⟩
  | .tup xs, _, r => by
    obtain ⟨p, ys, rfl, h1, h2⟩ := r
    exact ⟨p, ys, rfl, h1, RVs.share na h2⟩
  | .lst xs, _, r => by
    obtain ⟨p, ys, rfl, h1, n, h2⟩ := r
    exact ⟨p, ys, rfl, h1, ⟨fun z => n.1 z.1, fun z => (List.mem_append.mp z).elim n.2 fun z => n.1 (by rw [List.mem_singleton.mp z]; exact na)⟩, RVs.share na h2⟩
  | .dct ks vs, _, r => by
    obtain ⟨p, kvs, rfl, h1, n, hk, ok, h2⟩ := r
    exact ⟨p, kvs, rfl, h1, ⟨fun z => n.1 z.1, fun z => (List.mem_append.mp z).elim n.2 fun z => n.1 (by rw [List.mem_singleton.mp z]; exact na)⟩, hk, ok, RVs.share na h2⟩
  | .fro xs, _, r => by
    obtain ⟨p, ys, rfl, h1, h2⟩ := r
    refine ⟨p, ys, rfl, ?_, RVs.share na h2⟩
    rcases h1 with ⟨h1, n, m⟩ | h1
    · exact .inl ⟨h1, fun z => n z.1, fun z => (List.mem_append.mp z).elim m fun z => n (by rw [List.mem_singleton.mp z]; exact na)⟩
    · exact .inr h1
theorem RVs.share (na : N.a a) : ∀ {vs : List EV} {xs : List V}, RVs K N ρ H vs xs → RVs K ⟨fun b => N.a b ∧ b ≠ a, N.z⟩ (ρ ++ [a]) H vs xs
  | [], _, r => r
  | v :: vs, _, r => by
    obtain ⟨y, q, rfl, h1, h2⟩ := r
    exact ⟨y, q, rfl, RV.share na h1, RVs.share na h2⟩
end
theorem SS.share {xs : List EV} (s : SS K TP N0 ρ0 H0 Ld N ρ env h σ H) (e : env[i]? = some (some (SV.oL xs))) : ∃ N1 ρ1, SS K TP N0 ρ0 H0 Ld N1 ρ1 (env.set i (some (.val (.ref h.length)))) (h ++ [xs]) σ H := by
  obtain ⟨a, ys, h1, h2, h3, h4⟩ := s.se.ol i xs e
  have oi : ownA env i := .inl ⟨xs, e⟩
  obtain ⟨na, h0⟩ := s.own i a oi h1
  have hs : σ.set i (some (.ref a)) = σ := by
    refine List.ext_getElem? fun j => ?_
    by_cases e : i = j
    · subst e
      rw [List.getElem?_set_self (List.getElem?_eq_some_iff.mp h1).1, h1]
    · rw [List.getElem?_set_ne e]
  have rh : RH K ⟨fun b => N.a b ∧ b ≠ a, N.z⟩ (ρ ++ [a]) H (h ++ [xs]) := by
    refine ⟨by rw [List.length_append, List.length_append, s.se.rh.len]; rfl, ?_, ?_, fun b q => s.se.rh.trk b q.1⟩
    · exact List.nodup_append.mpr ⟨s.se.rh.nd, by simp, fun b hb c hc z => h3 (by rw [← List.mem_singleton.mp hc, ← z]; exact hb)⟩
    · intro n b zs e1 e2
      by_cases hn : n < ρ.length
      · rw [List.getElem?_append_left hn] at e1
        rw [List.getElem?_append_left (by rw [s.se.rh.len]; exact hn)] at e2
        obtain ⟨us, q1, q2⟩ := s.se.rh.obj n b zs e1 e2
        exact ⟨us, q1, RVs.share na q2⟩
      · have hn' : n = ρ.length := by
          have := (List.getElem?_eq_some_iff.mp e1).1
          rw [List.length_append, List.length_singleton] at this
          omega
        subst hn'
        rw [List.getElem?_append_right (Nat.le_refl _), Nat.sub_self] at e1
        rw [← s.se.rh.len, List.getElem?_append_right (Nat.le_refl _), Nat.sub_self] at e2
        cases e1; cases e2
        exact ⟨ys, h2, RVs.share na h4⟩
  refine ⟨⟨fun b => N.a b ∧ b ≠ a, N.z⟩, ρ ++ [a], s.unl0, s.unl, s.trk, fun b q => ⟨s.sub b q, fun z => ?_⟩, ?_, ?_, ?_, ?_, ?_, fun p q => RV.share na (s.held p q), s.tab⟩
  · subst z
    obtain ⟨o, ho⟩ := s.trk b q
    rw [h0] at ho; cases ho
  · intro b q
    rcases s.knd b q.1 with z | ⟨q1, q2, q3⟩
    · exact .inl z
    · exact .inr ⟨q1, fun z => (List.mem_append.mp z).elim q2 fun z => q.2 (List.mem_singleton.mp z), q3⟩
  · refine ⟨?_, fun b q => ?_, s.ext.keep, s.ext.tbl, s.ext.tups, s.ext.shr, s.ext.tabs⟩
    · obtain ⟨more, hm⟩ := s.ext.pre
      exact ⟨more ++ [a], by rw [hm, List.append_assoc]⟩
    · rcases List.mem_append.mp q with q | q
      · exact s.ext.fresh b q
      · rw [List.mem_singleton.mp q]; exact .inr h0
  · refine ⟨rh, by rw [List.length_set]; exact s.se.len, ?_, ?_, ?_⟩
    · intro j v q
      by_cases hji : i = j
      · subst hji
        rw [List.getElem?_set_self (List.getElem?_eq_some_iff.mp e).1] at q
        cases q
        refine ⟨_, h1, a, rfl, ?_⟩
        rw [s.se.rh.len, List.getElem?_append_right (Nat.le_refl _), Nat.sub_self]
        rfl
      · rw [List.getElem?_set_ne hji] at q
        obtain ⟨x, q1, q2⟩ := s.se.val j v q
        exact ⟨x, q1, RV.share na q2⟩
    · intro j zs q
      obtain ⟨q0, q'⟩ := ownA_set (.inl ⟨zs, q⟩)
      rw [List.getElem?_set_ne (Ne.symm q0)] at q
      obtain ⟨b, us, q1, q2, q3, q4⟩ := s.se.ol j zs q
      exact ⟨b, us, q1, q2, fun z => (List.mem_append.mp z).elim q3 fun z => q0 (s.dst j i b q' oi q1 (by rw [List.mem_singleton.mp z]; exact h1)), RVs.share na q4⟩
    · intro j ks vs q
      obtain ⟨q0, q'⟩ := ownA_set (.inr ⟨ks, vs, q⟩)
      rw [List.getElem?_set_ne (Ne.symm q0)] at q
      obtain ⟨b, kvs, q1, q2, q3, q4, q5, q6⟩ := s.se.od j ks vs q
      exact ⟨b, kvs, q1, q2, fun z => (List.mem_append.mp z).elim q3 fun z => q0 (s.dst j i b q' oi q1 (by rw [List.mem_singleton.mp z]; exact h1)), q4, q5, RVs.share na q6⟩
  · intro j b q z
    obtain ⟨q1, q2⟩ := ownA_set q
    obtain ⟨q3, q4⟩ := s.own j b q2 z
    exact ⟨⟨q3, fun e => q1 (s.dst j i b q2 oi z (by rw [e]; exact h1))⟩, q4⟩
  · intro j k b q1 q2 z1 z2
    exact s.dst j k b (ownA_set q1).2 (ownA_set q2).2 z1 z2
end
end EvS
end
section
set_option Elab.async false
set_option linter.all false
set_option maxRecDepth 100000
set_option maxHeartbeats 1000000
/-! EvB: statements. -/
namespace EvS
open PySem PySem.Spec PyProof.Rows L2 Ev
/-- a statement's outcome -/
def outS (K : PySem.W.Frag) (TP : List Addr) (W : Nat → Hp → Prop) (fr : Bool) (N0 : Nz) (ρ0 : List Addr) (H0 : Hp) (Ld : List (EV × V)) (r : SRes) (D : Ends) : Prop := match r with
  | .nx env h => ∀ N ρ σ H, SS K TP N0 ρ0 H0 Ld N ρ env h σ H → D.nx σ H
  | .rt v h => ∀ ρ H x, Ext K ρ0 H0 ρ H → RH K N0 ρ H h → RV K N0 ρ H v x → (fr = true → FV K N0 H0 ρ H h v x) → D.rt x H
  | .exc c h => ∀ ρ H, Ext K ρ0 H0 ρ H → RH K N0 ρ H h → W c H
  | .bad => False
/-- a statement's reading -/
def tS (K : PySem.W.Frag) (TP : List Addr) (W : Nat → Hp → Prop) (fr : Bool) (ms : MS) : TS := fun D σ H => ∃ N0 ρ0 H0 Ld N ρ env h, SS K TP N0 ρ0 H0 Ld N ρ env h σ H ∧ outS K TP W fr N0 ρ0 H0 Ld (ms env h) D
theorem PSi {X : Cx} {st : Stmt} {t t' : TS} (h : PS X st t) (i : ∀ D σ H, t' D σ H → t D σ H) : PS X st t' := ⟨fun pins s σ H D I q => h.run pins s σ H D I (i D σ H q)⟩
theorem PSsi {X : Cx} {st : List Stmt} {t t' : TS} (h : PSs X st t) (i : ∀ D σ H, t' D σ H → t D σ H) : PSs X st t' := ⟨fun pins s σ H D I q => h.run pins s σ H D I (i D σ H q)⟩
/-- a new list or dict, to be built on -/
def mF (m : M) : M := fun env h => (m env h).bind fun v h => (match ownV v with
  | some _ => .ok v h
  | none => .bad)
/-- a value, or a new list or dict -/
def tX (K : PySem.W.Frag) (W : Nat → Hp → Prop) (o : Bool) (m : M) : TE := match o with
  | true => tF K W true (mF m)
  | false => tM K W true m
section
variable {K : PySem.W.Frag} {TP : List Addr} {W : Nat → Hp → Prop} {fr : Bool} {N0 N : Nz} {ρ0 ρ ρ1 : List Addr} {H0 H H1 : Hp} {h h1 : Hh} {env : Ev.Env} {σ : L2.St} {Ld : List (EV × V)} {a : Addr} {i : Nat} {D : Ends}
theorem sM {m : M} {k : EV → Hh → SRes} {Q' : VK} (s : SS K TP N0 ρ0 H0 Ld N ρ env h σ H) (q : outS K TP W fr N0 ρ0 H0 Ld ((m env h).s k) D)
    (c : ∀ v h1 ρ1 H1 x, Ext K ρ H ρ1 H1 → SS K TP N0 ρ0 H0 Ld N ρ1 env h1 σ H1 → RV K N ρ1 H1 v x → outS K TP W fr N0 ρ0 H0 Ld (k v h1) D → Q' x H1) : tM K W true m σ H Q' := by
  refine ⟨N, ρ, env, h, s.se, fun _ => s.unl, ?_⟩
  cases e : m env h with
  | bad => rw [e] at q; exact q
  | exc x h1 =>
    rw [e] at q
    exact fun ρ1 H1 e1 r1 => q ρ1 H1 (s.ext.trans e1) (s.mono e1 r1).rh0
  | ok v h1 =>
    rw [e] at q
    exact fun ρ1 H1 e1 r1 x rx => c v h1 ρ1 H1 x e1 (s.mono e1 r1) rx q
theorem sT {m : M} {k : EV → Hh → SRes} {Q' : Bool → Hp → Prop} (s : SS K TP N0 ρ0 H0 Ld N ρ env h σ H) (q : outS K TP W fr N0 ρ0 H0 Ld ((m env h).s k) D) (hk : ∀ v h, (∀ b, v ≠ .bl b) → k v h = .bad)
    (c : ∀ b h1 ρ1 H1, SS K TP N0 ρ0 H0 Ld N ρ1 env h1 σ H1 → outS K TP W fr N0 ρ0 H0 Ld (k (.bl b) h1) D → Q' b H1) : tT K W true m σ H Q' := by
  refine ⟨N, ρ, env, h, s.se, fun _ => s.unl, ?_⟩
  cases e : m env h with
  | bad => rw [e] at q; exact q
  | exc x h1 =>
    rw [e] at q
    exact fun ρ1 H1 e1 r1 => q ρ1 H1 (s.ext.trans e1) (s.mono e1 r1).rh0
  | ok v h1 =>
    rw [e] at q
    intro ρ1 H1 e1 r1
    cases v with
    | bl b => exact ⟨b, rfl, c b h1 ρ1 H1 (s.mono e1 r1) q⟩
    | _ =>
      have q : outS K TP W fr N0 ρ0 H0 Ld (k _ h1) D := q
      rw [hk _ _ (by intro b; simp)] at q; exact (show False from q).elim
/-- what is stored -/
def PV (K : PySem.W.Frag) (H0 : Hp) (N : Nz) (ρ : List Addr) (H : Hp) (w : SV) (x : V) : Prop := match w with
  | .val v => RV K N ρ H v x
  | w => ∃ a, x = .ref a ∧ N.a a ∧ H0 a = none ∧ OV K N ρ H w a
theorem LD_of {w : SV} (r : OV K N ρ H w a) : LD (H a) ∧ a ∉ ρ := by
  cases w with
  | val v => exact r.elim
  | oL xs => obtain ⟨ys, h1, h2, _⟩ := r; exact ⟨.inl ⟨ys, h1⟩, h2⟩
  | oD ks vs => obtain ⟨ys, h1, h2, _⟩ := r; exact ⟨.inr ⟨ys, h1⟩, h2⟩
theorem sX {o : Bool} {m : M} {k : EV → Hh → SRes} {k' : SV → Hh → SRes} {Q' : VK} (s : SS K TP N0 ρ0 H0 Ld N ρ env h σ H) (q : outS K TP W fr N0 ρ0 H0 Ld ((m env h).s k) D)
    (hk : ∀ v h, k v h = (match ownR o v with | some w => k' w h | none => .bad))
    (c : ∀ w h1 N1 ρ1 H1 x, Ext K ρ H ρ1 H1 → Nle N1 N H → (∀ b, N.a b → N1.a b) → SS K TP N0 ρ0 H0 Ld N1 ρ1 env h1 σ H1 → PV K H0 N1 ρ1 H1 w x → (∀ a, (∀ v, w ≠ .val v) → x = .ref a → H a = none) → outS K TP W fr N0 ρ0 H0 Ld (k' w h1) D → Q' x H1) : tX K W o m σ H Q' := by
  cases o with
  | false => exact sM s q fun v h1 ρ1 H1 x e1 s1 rx q1 => c (.val v) h1 N ρ1 H1 x e1 Nle.rfl (fun _ z => z) s1 rx (fun a z => (z v rfl).elim) (by rw [hk] at q1; exact q1)
  | true =>
    refine ⟨N, ρ, env, h, s.se, fun _ => s.unl, ?_⟩
    unfold mF
    cases e : m env h with
    | bad => rw [e] at q; exact q
    | exc x h1 =>
      rw [e] at q
      exact fun ρ1 H1 e1 r1 => q ρ1 H1 (s.ext.trans e1) (s.mono e1 r1).rh0
    | ok v h1 =>
      rw [e] at q
      have q : outS K TP W fr N0 ρ0 H0 Ld (k v h1) D := q
      rw [hk] at q
      simp only [Res.bind_ok]
      cases v with
      | lst xs =>
        intro ρ1 H1 e1 r1 x f
        obtain ⟨a, ys, rfl, ha, hl, na, ra, rh⟩ := f
        refine c (.oL xs) h1 _ ρ1 H1 _ e1 (.new ha) (fun _ z => .inl z) (s.add e1 ha na (.inl ⟨ys, hl⟩) rh) ⟨a, rfl, Or.inr rfl, none_back s.ext ha, ys, hl, na, ra⟩ (fun b _ z => by cases z; exact ha) q
      | dct ks vs =>
        intro ρ1 H1 e1 r1 x f
        obtain ⟨a, kvs, rfl, ha, hl, na, hk, ok, ra, rh⟩ := f
        refine c (.oD ks vs) h1 _ ρ1 H1 _ e1 (.new ha) (fun _ z => .inl z) (s.add e1 ha na (.inr ⟨kvs, hl⟩) rh) ⟨a, rfl, Or.inr rfl, none_back s.ext ha, kvs, hl, na, hk, ok, ra⟩ (fun b _ z => by cases z; exact ha) q
      | _ => exact (show False from q).elim
theorem OV.mono {N1 : Nz} {w : SV} (e : Ext K ρ H ρ1 H1) (hN : Nle N1 N H) (r : OV K N ρ H w a) : OV K N1 ρ1 H1 w a := by
  cases w with
  | val v => exact r.elim
  | oL xs => obtain ⟨ys, h1, h2, h3⟩ := r; exact ⟨ys, e.keep _ _ h1 h2 trivial, e.avoid h1 h2, RVs.mono e hN h3⟩
  | oD ks vs => obtain ⟨kvs, h1, h2, h3, h4, h5⟩ := r; exact ⟨kvs, e.keep _ _ h1 h2 trivial, e.avoid h1 h2, h3, h4, RVs.mono e hN h5⟩
theorem PV.mono {N1 : Nz} {w : SV} {x : V} (e : Ext K ρ H ρ1 H1) (hN : Nle N1 N H) (sub : ∀ b, N.a b → N1.a b) (r : PV K H0 N ρ H w x) : PV K H0 N1 ρ1 H1 w x := by
  cases w with
  | val v => exact RV.mono e hN r
  | oL xs => obtain ⟨a, h1, h2, h3, h4⟩ := r; exact ⟨a, h1, sub a h2, h3, h4.mono e hN⟩
  | oD xs vs => obtain ⟨a, h1, h2, h3, h4⟩ := r; exact ⟨a, h1, sub a h2, h3, h4.mono e hN⟩
/-- into slot i -/
theorem SS.put {w : SV} {x : V} (s : SS K TP N0 ρ0 H0 Ld N ρ env h σ H) (r : PV K H0 N ρ H w x) (un : ∀ a, (∀ v, w ≠ .val v) → x = .ref a → ∀ j, ownA env j → σ[j]? = some (some (V.ref a)) → j = i) : SS K TP N0 ρ0 H0 Ld N ρ (env.set i (some w)) h (σ.set i (some x)) H := by
  cases w with
  | val v => exact s.set r
  | oL xs => obtain ⟨a, rfl, h2, h3, h4⟩ := r; exact s.setO h2 h3 (un a (by intro v; simp) rfl) h4
  | oD xs vs => obtain ⟨a, rfl, h2, h3, h4⟩ := r; exact s.setO h2 h3 (un a (by intro v; simp) rfl) h4
/-- what stands in an own slot is there -/
theorem SS.there (s : SS K TP N0 ρ0 H0 Ld N ρ env h σ H) {j : Nat} (o : ownA env j) (e : σ[j]? = some (some (V.ref a))) : ∃ u, H a = some u := by
  rcases o with ⟨xs, o⟩ | ⟨ks, vs, o⟩
  · obtain ⟨b, ys, h1, h2, _⟩ := s.se.ol j xs o
    rw [e] at h1; cases h1; exact ⟨_, h2⟩
  · obtain ⟨b, kvs, h1, h2, _⟩ := s.se.od j ks vs o
    rw [e] at h1; cases h1; exact ⟨_, h2.1 (s.unl _)⟩
end
section
variable {X : Cx} {TP : List Addr} {W : Nat → Hp → Prop} {fr : Bool} {a b c : Expr} {ma mb mc : M} {pos : Pos} {i j : Nat}
theorem Snext : ∀ {D σ H}, tS X.K TP W fr (fun env h => .nx env h) D σ H → tNext D σ H := fun ⟨N0, ρ0, H0, Ld, N, ρ, env, h, s, q⟩ => q N ρ _ _ s
theorem Spass : PS X (.Pass pos) (tS X.K TP W fr fun env h => .nx env h) := PSi ps_pass fun D σ H q => Snext q
theorem Sdoc {x jj p} : PS X (.Expr (.Constant (.str x) jj p) pos) (tS X.K TP W fr fun env h => .nx env h) := PSi ps_doc fun D σ H q => Snext q
theorem Snil : PSs X [] (tS X.K TP W fr fun env h => .nx env h) := PSsi pss_nil fun D σ H q => Snext q
theorem outS_thn {K : PySem.W.Frag} {TP : List Addr} {N0 : Nz} {ρ0 : List Addr} {H0 : Hp} {Ld : List (EV × V)} {r : SRes} {f : MS} {D : Ends} (q : outS K TP W fr N0 ρ0 H0 Ld (r.thn f) D) : outS K TP W fr N0 ρ0 H0 Ld r { D with nx := tS K TP W fr f D } := by
  cases r with
  | nx env h => exact fun N ρ σ H s => ⟨N0, ρ0, H0, Ld, N, ρ, env, h, s, q⟩
  | rt v h => exact q
  | exc c h => exact q
  | bad => exact q
theorem Scons {st : Stmt} {rest : List Stmt} {m1 m2 : MS} (h1 : PS X st (tS X.K TP W fr m1)) (h2 : PSs X rest (tS X.K TP W fr m2)) : PSs X (st :: rest) (tS X.K TP W fr fun env h => (m1 env h).thn m2) :=
  PSsi (pss_cons h1 h2) fun D σ H ⟨N0, ρ0, H0, Ld, N, ρ, env, h, s, q⟩ => ⟨N0, ρ0, H0, Ld, N, ρ, env, h, s, outS_thn q⟩
theorem Sret (he : PE X a (tM X.K W true ma)) (hf : fr = false) : PS X (.Return (some a) pos) (tS X.K TP W fr fun env h => (ma env h).s fun v h => .rt v h) :=
  PSi (ps_ret he) fun D σ H ⟨N0, ρ0, H0, Ld, N, ρ, env, h, s, q⟩ => sM s q fun v h1 ρ1 H1 x e1 s1 rx q1 => q1 ρ1 H1 x s1.ext s1.rh0 (s1.rv0 rx) fun z => by rw [hf] at z; cases z
theorem Sex (he : PE X a (tM X.K W true ma)) (hs : swapsWith a none pos.line X.env = pure false) : PS X (.Expr a pos) (tS X.K TP W fr fun env h => (ma env h).s fun _ h => .nx env h) :=
  PSi (ps_expr he hs) fun D σ H ⟨N0, ρ0, H0, Ld, N, ρ, env, h, s, q⟩ => sM s q fun v h1 ρ1 H1 x e1 s1 rx q1 => q1 N ρ1 σ H1 s1
theorem Site {p q : List Stmt} {m1 m2 : MS} (ht : PT X c (tT X.K W true mc)) (h1 : PSs X p (tS X.K TP W fr m1)) (h2 : PSs X q (tS X.K TP W fr m2)) : PS X (.If c p q pos) (tS X.K TP W fr fun env h => (mc env h).s fun v h => (match v with
    | .bl true => m1 env h
    | .bl false => m2 env h
    | _ => .bad)) :=
  PSi (ps_if ht h1 h2) fun D σ H ⟨N0, ρ0, H0, Ld, N, ρ, env, h, s, q⟩ => sT s q (fun v h z => by cases v <;> first | rfl | exact (z _ rfl).elim) fun b h1 ρ1 H1 s1 q1 => by
    cases b with
    | true => exact iteT ⟨N0, ρ0, H0, Ld, N, ρ1, env, h1, s1, q1⟩
    | false => exact iteF ⟨N0, ρ0, H0, Ld, N, ρ1, env, h1, s1, q1⟩
theorem Sraise {k : Nat} {cls : Nat → Value} {e : Expr} (hc : X.calm = true) (tk : Takes X (wx cls W)) (he : PMk X e (fun _ H Q => Q (cls k) none H)) : PS X (.Raise (some e) none pos) (tS X.K TP W fr fun _ h => .exc k h) :=
  PSi (ps_raise hc tk he) fun D σ H ⟨N0, ρ0, H0, Ld, N, ρ, env, h, s, q⟩ => ⟨k, rfl, rfl, q ρ H s.ext s.rh0⟩
/-- t = e -/
theorem Sasg {tg : Expr} {t : Ev.T} (he : PE X a (tM X.K W true ma)) (hg : PG X tg (gE X.K t)) (hs : swapsWithSole [tg] a pos.line X.env = pure false) (hw : swappedStores [tg] a X.env = pure none) (h1 : (assignEach [tg] X.env).map (·.2) = [assign tg X.env]) :
    PS X (.Assign [tg] a pos) (tS X.K TP W fr fun env h => (ma env h).s fun v h => (match t.put v env with
      | some env1 => .nx env1 h
      | none => .bad)) :=
  PSi (ps_asg he hg hs hw h1) fun D σ H ⟨N0, ρ0, H0, Ld, N, ρ, env, h, s, q⟩ => sM s q fun v h1 ρ1 H1 x e1 s1 rx q1 => by
    cases ep : t.put v env with
    | none => rw [ep] at q1; exact (show False from q1).elim
    | some env1 =>
      rw [ep] at q1
      exact ⟨N, ρ1, fun e s => SS X.K TP N0 ρ0 H0 Ld N ρ1 e h1 s H1, v, env, env1, s1, rx, ep, fun e s i w y _ p r => p.set r, fun σ' p => q1 N ρ1 σ' H1 p⟩
/-- name = e, a value or what one goes on building -/
theorem Sset {o : Bool} {x : Str} {p : Pos} (hN : X.N.Nodup) (hi : X.N[i]? = some x) (hx : Loc X.env.scope x) (he : PE X a (tX X.K W o ma)) (hs : swapsWith a (some (.Name x p)) pos.line X.env = pure false) (hf : X.fn x = true ∨ X.env.scope.names.lookup x = some .local) :
    PS X (.Assign [.Name x p] a pos) (tS X.K TP W fr fun env h => (ma env h).s fun v h => (match ownR o v with
      | some w => .nx (env.set i (some w)) h
      | none => .bad)) :=
  PSi (ps_set hN hi hx he hs hf) fun D σ H ⟨N0, ρ0, H0, Ld, N, ρ, env, h, s, q⟩ => sX (k' := fun w h => .nx (env.set i (some w)) h) s q (fun _ _ => rfl) fun w h1 N1 ρ1 H1 x e1 le sb s1 pv un q1 =>
    q1 N1 ρ1 _ H1 (s1.put pv fun a z e j oj ej => by
      obtain ⟨u, hu⟩ := s.there oj ej
      rw [un a z e] at hu; cases hu)
end
end EvS
end
section
set_option Elab.async false
set_option linter.all false
set_option maxRecDepth 100000
set_option maxHeartbeats 1000000
/-! EvD: statements, on. -/
namespace EvS
open PySem PySem.Spec PyProof.Rows L2 Ev
section
variable {K : PySem.W.Frag} {TP : List Addr} {W : Nat → Hp → Prop} {fr : Bool} {N0 N : Nz} {ρ0 ρ ρ1 : List Addr} {H0 H H1 : Hp} {h h1 : Hh} {env : Ev.Env} {σ : L2.St} {Ld : List (EV × V)} {a : Addr} {i : Nat} {D : Ends}
/-! ### a shared list is written -/
theorem nodup_inj {α : Type} : ∀ {xs : List α} {m n : Nat} {a : α}, xs.Nodup → xs[m]? = some a → xs[n]? = some a → m = n
  | [], _, _, _, _, e, _ => by simp at e
  | x :: xs, 0, 0, _, _, _, _ => rfl
  | x :: xs, 0, n + 1, a, nd, e, f => by
    rw [List.nodup_cons] at nd
    simp only [List.getElem?_cons_zero, Option.some.injEq] at e
    subst e
    exact (nd.1 (List.mem_of_getElem? (by simpa using f))).elim
  | x :: xs, m + 1, 0, a, nd, e, f => by
    rw [List.nodup_cons] at nd
    simp only [List.getElem?_cons_zero, Option.some.injEq] at f
    subst f
    exact (nd.1 (List.mem_of_getElem? (by simpa using e))).elim
  | x :: xs, m + 1, n + 1, a, nd, e, f => by
    rw [List.nodup_cons] at nd
    exact congrArg (· + 1) (nodup_inj nd.2 (a := a) (by simpa using e) (by simpa using f))
theorem Ext.wr {ys zs : List V} (hs : ∀ b ∈ ρ, ∃ o, H b = some o) (ha : a ∈ ρ) (hl : H a = some (.lst ys)) : Ext K ρ H ρ (upd H a (.lst zs)) where
  pre := ⟨[], by simp⟩
  fresh := fun b q => .inl q
  keep := fun b o q n _ => by
    have ne : b ≠ a := fun z => n (by rw [z]; exact ha)
    rw [upd_ne ne]; exact q
  tbl := fun b ps q => by
    have ne : b ≠ a := by intro z; subst z; rw [hl] at q; cases q
    exact ⟨#[], by rw [upd_ne ne, q]; simp⟩
  tups := fun p us q => sqT_upd (.inl hl) q
  shr := fun b m => by
    by_cases z : b = a
    · subst z; exact ⟨_, upd_same⟩
    · rw [upd_ne z]; exact hs b m
  tabs := fun P t => tabS_of t fun b o z k => by
    by_cases hb : b = a
    · subst hb
      rw [hl] at z; cases z; rcases k with ⟨ps, k⟩ | ⟨c, q, k⟩ <;> cases k
    · rw [upd_ne hb]; exact z
theorem RH.wr {n : Nat} {xs zs : List EV} {ws : List V} (r : RH K N ρ H h) (hn : ρ[n]? = some a) (hx : h[n]? = some xs) (rz : RVs K N ρ H zs ws) : RH K N ρ (upd H a (.lst ws)) (h.set n zs) := by
  obtain ⟨ys, hl, _⟩ := r.obj n a xs hn hx
  have e : Ext K ρ H ρ (upd H a (.lst ws)) := .wr (fun b m => let ⟨_, q⟩ := r.shr b m; ⟨_, q⟩) (List.mem_of_getElem? hn) hl
  refine ⟨by rw [List.length_set]; exact r.len, r.nd, fun m b us e1 e2 => ?_, fun b q => e.trk (r.trk b q).choose_spec⟩
  by_cases hm : m = n
  · subst hm
    rw [hn] at e1; cases e1
    have hl2 : m < h.length := (List.getElem?_eq_some_iff.mp hx).1
    rw [List.getElem?_set_self hl2] at e2
    cases e2
    exact ⟨ws, upd_same, RVs.mono e Nle.rfl rz⟩
  · rw [List.getElem?_set_ne (Ne.symm hm)] at e2
    obtain ⟨vs, q1, q2⟩ := r.obj m b us e1 e2
    have ne : b ≠ a := by
      intro z; subst z
      exact hm (nodup_inj r.nd e1 hn)
    exact ⟨vs, by rw [upd_ne ne]; exact q1, RVs.mono e Nle.rfl q2⟩
end
/-- d.update(e) -/
theorem mt_dupd {X : Cx} : MtR X "dict.update" (fun x vs H Q => ∃ d e kvs more, x = .ref d ∧ vs = [.ref e] ∧ d ≠ e ∧ H d = some (.dK kvs) ∧ Rd H e (.dK more) ∧ kvs.length + more.length ≤ sizeLine ∧ Q .non (upd H d (.dK (mergeK kvs more)))) := by
  intro pins s σ H x vs v us Q I rx rv hh
  obtain ⟨d, e, kvs, more, rfl, rfl, hne, hd, he, hz, q⟩ := hh
  cases rx
  obtain ⟨u, rfl, ru⟩ := rv.one
  cases ru
  obtain ⟨z1, n1, as, rel1, dd1⟩ := dk_of I.hok hd
  obtain ⟨z2, n2, bs, rel2, dd2⟩ := dk_rd I.hok he
  refine call_meetsIn PySem.F.slot_dict_update dd1.typeIs PySem.F.entry_dict_update (PySem.F.args_dict_update_2 _ _) (PySem.meets_dict_update (mixKind X.prog X.w) d e hne n2) ⟨as, bs, dd1, dd2, by rw [← rel1.length, ← rel2.length]; exact hz, fun h' dd' _ hs => ?_⟩
  have hq : ∃ q, h'.get? d = some q := let ⟨q, _, _, hq, _⟩ := dd'; ⟨q, hq⟩
  refine ⟨.non, _, ?_, rfl, q⟩
  exact d_write (t' := s.toks) I (by rw [hd]; exact True.intro) hs hq (dk_new (by have := length_mergeK more kvs; omega) n1 (KV.merge rel2 rel1) dd')
section
variable {X : Cx} {TP : List Addr} {W : Nat → Hp → Prop} {fr : Bool} {a b c : Expr} {ma mb mc : M} {pos : Pos} {i j : Nat}
/-- x, y = a, b -/
theorem Spar2 {o1 o2 : Bool} {x y : Str} {px py pt pt2 : Pos} {kt k2} (hc : X.calm = true) (hN : X.N.Nodup) (hi : X.N[i]? = some x) (hj : X.N[j]? = some y) (hij : i ≠ j)
    (hx : X.env.scope.names.lookup x = some .local) (hy : X.env.scope.names.lookup y = some .local) (na : ns a = true) (nb : ns b = true) (ha : PE X a (tX X.K W o1 ma)) (hb : PE X b (tX X.K W o2 mb))
    (hw : swappedStores [.Tuple [.Name x px, .Name y py] kt pt] (.Tuple [a, b] k2 pt2) X.env = pure (some [x, y])) :
    PS X (.Assign [.Tuple [.Name x px, .Name y py] kt pt] (.Tuple [a, b] k2 pt2) pos) (tS X.K TP W fr fun env h => (ma env h).s fun x h => (match ownR o1 x with
      | some w1 => (mb env h).s fun y h => (match ownR o2 y with
        | some w2 => .nx ((env.set i (some w1)).set j (some w2)) h
        | none => .bad)
      | none => .bad)) :=
  PSi (ps_par hc hN hi hj hij hx hy (pa_cons ha (pa_cons hb pa_nil (star_cons nb)) (star_cons na)) hw) fun D σ H ⟨N0, ρ0, H0, Ld, N, ρ, env, h, s, q⟩ =>
    sX (k' := fun w1 h => (mb env h).s fun y h => (match ownR o2 y with
        | some w2 => .nx ((env.set i (some w1)).set j (some w2)) h
        | none => .bad)) s q (fun _ _ => rfl) fun w1 h1 N1 ρ1 H1 x e1 le1 sb1 s1 pv1 un1 q1 =>
      sX (k' := fun w2 h => .nx ((env.set i (some w1)).set j (some w2)) h) s1 q1 (fun _ _ => rfl) fun w2 h2 N2 ρ2 H2 y e2 le2 sb2 s2 pv2 un2 q2 => by
        refine ⟨x, y, rfl, q2 N2 ρ2 _ H2 ?_⟩
        refine (s2.put (PV.mono e2 le2 sb2 pv1) fun a z e k ok ek => ?_).put pv2 fun a z e k ok ek => ?_
        · obtain ⟨u, hu⟩ := s.there ok ek
          rw [un1 a z e] at hu; cases hu
        · have h0 := un2 a z e
          rcases ownA_setO ok with hk | ⟨hk, ok⟩
          · subst hk
            rcases set_ref ek with ⟨_, ex⟩ | ⟨hk, _⟩
            · cases w1 with
              | val v => exact (ownA_set ok).1 rfl |>.elim
              | oL xs =>
                obtain ⟨a', e', _, _, r⟩ := pv1
                rw [← ex] at e'; cases e'
                obtain ⟨⟨u, hu⟩ | ⟨u, hu⟩, _⟩ := LD_of r <;> rw [h0] at hu <;> cases hu
              | oD xs vs =>
                obtain ⟨a', e', _, _, r⟩ := pv1
                rw [← ex] at e'; cases e'
                obtain ⟨⟨u, hu⟩ | ⟨u, hu⟩, _⟩ := LD_of r <;> rw [h0] at hu <;> cases hu
            · exact (hk rfl).elim
          · rw [List.getElem?_set_ne (Ne.symm hk)] at ek
            obtain ⟨u, hu⟩ := s1.there ok ek
            rw [h0] at hu; cases hu
/-- x, y = a, b by way of a pair -/
theorem Spar2T {o1 o2 : Bool} {x y : Str} {px py pt pt2 : Pos} {kt k2} (hc : X.calm = true) (hN : X.N.Nodup) (hi : X.N[i]? = some x) (hj : X.N[j]? = some y) (hx : Loc X.env.scope x) (hy : Loc X.env.scope y)
    (fx : X.fn x = true ∨ X.env.scope.names.lookup x = some .local) (fy : X.fn y = true ∨ X.env.scope.names.lookup y = some .local) (hij : i ≠ j) (na : ns a = true) (nb : ns b = true) (ha : PE X a (tX X.K W o1 ma)) (hb : PE X b (tX X.K W o2 mb))
    (hw : swappedStores [.Tuple [.Name x px, .Name y py] kt pt] (.Tuple [a, b] k2 pt2) X.env = pure none) :
    PS X (.Assign [.Tuple [.Name x px, .Name y py] kt pt] (.Tuple [a, b] k2 pt2) pos) (tS X.K TP W fr fun env h => (ma env h).s fun x h => (match ownR o1 x with
      | some w1 => (mb env h).s fun y h => (match ownR o2 y with
        | some w2 => .nx ((env.set i (some w1)).set j (some w2)) h
        | none => .bad)
      | none => .bad)) :=
  PSi (ps_asg (pe_tup (pa_cons ha (pa_cons hb pa_nil (star_cons nb)) (star_cons na))) (pg_tup (n := 2) hc (pgs_cons (pg_name hN hi hx fx) (pgs_cons (pg_name hN hj hy fy) pgs_nil))) rfl hw rfl) fun D σ H ⟨N0, ρ0, H0, Ld, N, ρ, env, h, s, q⟩ =>
    sX (k' := fun w1 h => (mb env h).s fun y h => (match ownR o2 y with
        | some w2 => .nx ((env.set i (some w1)).set j (some w2)) h
        | none => .bad)) s q (fun _ _ => rfl) fun w1 h1 N1 ρ1 H1 x e1 le1 sb1 s1 pv1 un1 q1 =>
      sX (k' := fun w2 h => .nx ((env.set i (some w1)).set j (some w2)) h) s1 q1 (fun _ _ => rfl) fun w2 h2 N2 ρ2 H2 y e2 le2 sb2 s2 pv2 un2 q2 => by
        refine ⟨by show 2 ≤ sizeLine; decide, fun p hp => ⟨p, [x, y], rfl, .of upd_same, rfl, x, [y], rfl, y, [], rfl, rfl, ?_⟩⟩
        have e3 := s2.se.rh.newX (o := .tup [x, y]) hp
        have s3 := s2.mono e3 (s2.se.rh.new hp)
        refine q2 N2 ρ2 _ _ ((s3.put (PV.mono e3 Nle.rfl (fun _ z => z) (PV.mono e2 le2 sb2 pv1)) fun a z e k ok ek => ?_).put (PV.mono e3 Nle.rfl (fun _ z => z) pv2) fun a z e k ok ek => ?_)
        · obtain ⟨u, hu⟩ := s.there ok ek
          rw [un1 a z e] at hu; cases hu
        · have h0 := un2 a z e
          rcases ownA_setO ok with hk | ⟨hk, ok⟩
          · subst hk
            rcases set_ref ek with ⟨_, ex⟩ | ⟨hk, _⟩
            · cases w1 with
              | val v => exact (ownA_set ok).1 rfl |>.elim
              | oL xs =>
                obtain ⟨a', e', _, _, r⟩ := pv1
                rw [← ex] at e'; cases e'
                obtain ⟨⟨u, hu⟩ | ⟨u, hu⟩, _⟩ := LD_of r <;> rw [h0] at hu <;> cases hu
              | oD xs vs =>
                obtain ⟨a', e', _, _, r⟩ := pv1
                rw [← ex] at e'; cases e'
                obtain ⟨⟨u, hu⟩ | ⟨u, hu⟩, _⟩ := LD_of r <;> rw [h0] at hu <;> cases hu
            · exact (hk rfl).elim
          · rw [List.getElem?_set_ne (Ne.symm hk)] at ek
            obtain ⟨u, hu⟩ := s1.there ok ek
            rw [h0] at hu; cases hu
def notSlice : Expr → Bool
  | .Slice _ _ _ _ => false
  | _ => true
/-- o[k] = v, o a shared list -/
theorem SsetR {p : Pos} (ho : PE X a (tM X.K W true ma)) (hk : PE X b (tM X.K W true mb)) (hv : PE X c (tM X.K W true mc)) (hb : notSlice b = true) (hs : swapsWith c (some (.Subscript a b p)) pos.line X.env = pure false)
    (hw : swappedStores [.Subscript a b p] c X.env = pure none) :
    PS X (.Assign [.Subscript a b p] c pos) (tS X.K TP W fr fun env h => (mc env h).s fun v h => (ma env h).s fun o h => (mb env h).s fun k h => (match setAt o k v h with
      | some h1 => .nx env h1
      | none => .bad)) :=
  PSi (ps_asg hv (pg_sub ho hk set_list (by intro v; cases b <;> first | rfl | exact absurd hb (by simp [notSlice]))) hs hw rfl) fun D σ H ⟨N0, ρ0, H0, Ld, N, ρ, env, h, s, q⟩ =>
    sM s q fun v h1 ρ1 H1 x e1 s1 rx q1 => sM s1 q1 fun o h2 ρ2 H2 y e2 s2 ry q2 => sM s2 q2 fun k h3 ρ3 H3 z e3 s3 rz q3 => by
      have rx3 := RV.mono (N' := N) e3 Nle.rfl (RV.mono (N' := N) e2 Nle.rfl rx)
      have ry3 := RV.mono (N' := N) e3 Nle.rfl ry
      cases o with
      | ref n => cases k with
        | int jj =>
          simp only [setAt] at q3
          cases hx : h3[n]? with
          | none => rw [hx] at q3; exact (show False from q3).elim
          | some xs =>
            rw [hx] at q3
            simp only at q3
            cases hj : ixAt xs.length jj with
            | none => rw [hj] at q3; exact (show False from q3).elim
            | some m =>
              rw [hj] at q3
              obtain ⟨d, rfl, hd⟩ := ry3
              cases (show z = _ from rz)
              obtain ⟨ys, hl, ra⟩ := s3.se.rh.obj n d xs hd hx
              refine ⟨d, ys, jj, m, rfl, rfl, hl, by rw [← ra.length, ← ixAt_eq]; exact hj, ?_⟩
              have rh := s3.se.rh.wr hd hx (RVs.set m ra rx3)
              exact q3 N ρ3 σ _ (s3.mono (.wr (fun b mm => let ⟨_, qq⟩ := s3.se.rh.shr b mm; ⟨_, qq⟩) (List.mem_of_getElem? hd) hl) rh)
        | _ => exact (show False from q3).elim
      | _ => exact (show False from q3).elim
/-- d[k] = v, d this def's own dict -/
theorem SsetO {x : Str} {p p2 : Pos} (hu : X.A.units + 1 < cLine) (hx : X.N[i]? = some x) (hvis : Vis X.env.scope x) (hd : (x == ("__debug__" : Str)) = false) (hcd : (x == ("__classdict__" : Str)) = false)
    (hk : PE X b (tM X.K W true mb)) (hv : PE X c (tM X.K W true mc)) (hs : swapsWith c (some (.Subscript (.Name x p2) b p)) pos.line X.env = pure false) :
    PS X (.Assign [.Subscript (.Name x p2) b p] c pos) (tS X.K TP W fr fun env h => (mc env h).s fun v h => (match env[i]? with
      | some (some (.oD ks vs)) => (mb env h).s fun k h => (match keyOf k with
        | some q => if ks.length < Ev.L then .nx (env.set i (some (.oD (dputK ks q) (dputV ks vs q v)))) h else .bad
        | none => .bad)
      | _ => .bad)) :=
  PSi (ps_dput hu (pe_var hx hvis hd hcd) hk hv hs) fun D σ H ⟨N0, ρ0, H0, Ld, N, ρ, env, h, s, q⟩ =>
    sM s q fun v h1 ρ1 H1 x e1 s1 rx q1 => by
      split at q1
      · rename_i ks vs e
        obtain ⟨d, kvs, hd, hp, hn, hk, kok, ra⟩ := s1.se.od i ks vs e
        refine ⟨.ref d, hd, sM s1 q1 fun k h2 ρ2 H2 y e2 s2 ry q2 => ?_⟩
        have hp1 := hp.1 (s1.unl d)
        have hp2 : H2 d = some (.dK kvs) := e2.keep _ _ hp1 hn trivial
        split at q2
        · rename_i qk ek
          split at q2
          · rename_i hl
            have hkl : kvs.length = ks.length := by simpa using congrArg List.length hk
            rw [rv_key ry ek]
            refine ⟨d, _, rfl, DPut.k hp2 (by rw [hkl, L_eq]; exact hl), q2 N ρ2 σ _ ?_⟩
            have oi : ownA env i := .inr ⟨ks, vs, e⟩
            obtain ⟨na, _⟩ := s2.own i d oi hd
            obtain ⟨r1, r2⟩ := dput_rel (RV.mono (N' := N) e2 Nle.rfl rx) qk kok.1 hk (RVs.mono (N' := N) e2 Nle.rfl ra)
            exact s2.upd oi hd (e2.avoid hp1 hn) (.inr ⟨_, hp2⟩) (.inr ⟨_, rfl⟩) ⟨_, upd_same, e2.avoid hp1 hn, r1, dputK_ok kok (rv_kok ry ek), RVs.updA na (.inr ⟨_, hp2⟩) r2⟩
          · exact (show False from q2).elim
        · exact (show False from q2).elim
      · exact (show False from q1).elim
/-- l.append(e), l this def's own list -/
theorem Sapp {x : Str} {p2 apos cpos : Pos} (hx : X.N[i]? = some x) (hvis : Vis X.env.scope x) (hd : (x == ("__debug__" : Str)) = false) (hcd : (x == ("__classdict__" : Str)) = false)
    (na : ns b = true) (hline : (apos.endLine == cpos.line) = true) (hb : PE X b (tM X.K W true mb)) :
    PS X (.Expr (.Call (.Attribute (.Name x p2) "append" apos) [b] [] cpos) pos) (tS X.K TP W fr fun env h => (match env[i]? with
      | some (some (.oL xs)) => (mb env h).s fun v h => if xs.length < Ev.L then .nx (env.set i (some (.oL (xs ++ [v])))) h else .bad
      | _ => .bad)) :=
  PSi (ps_expr (pe_bm PySem.F.plainAttrs_list PySem.F.slot_list_append PySem.F.type_list_append mt_append (pe_var hx hvis hd hcd) (pa_cons hb pa_nil (star_cons na)) rfl (few1 na) hline (star_cons na) rfl) rfl) fun D σ H ⟨N0, ρ0, H0, Ld, N, ρ, env, h, s, q⟩ => by
    dsimp only at q
    split at q
    · rename_i xs e
      obtain ⟨d, ys, hd, hp, hn, ra⟩ := s.se.ol i xs e
      refine ⟨.ref d, hd, .inl ⟨rfl, ys, .of hp⟩, sM s q fun v h1 ρ1 H1 y e1 s1 ry q1 => ?_⟩
      have hp1 : H1 d = some (.lst ys) := e1.keep _ _ hp hn trivial
      split at q1
      · rename_i hl
        have oi : ownA env i := .inl ⟨xs, e⟩
        obtain ⟨nd, _⟩ := s1.own i d oi hd
        refine ⟨d, ys, y, rfl, rfl, hp1, by rw [← ra.length, L_eq]; exact hl, q1 N ρ1 σ _ ?_⟩
        exact s1.upd oi hd (e1.avoid hp hn) (.inl ⟨_, hp1⟩) (.inl ⟨_, rfl⟩) ⟨_, upd_same, e1.avoid hp hn, RVs.updA nd (.inl ⟨_, hp1⟩) ((RVs.mono (N' := N) e1 Nle.rfl ra).append (RVs.one ry))⟩
      · exact (show False from q1).elim
    · exact (show False from q).elim
/-- d.update(e), d this def's own dict -/
theorem Supd {x : Str} {p2 apos cpos : Pos} (hx : X.N[i]? = some x) (hvis : Vis X.env.scope x) (hd : (x == ("__debug__" : Str)) = false) (hcd : (x == ("__classdict__" : Str)) = false)
    (na : ns b = true) (hline : (apos.endLine == cpos.line) = true) (hb : PE X b (tM X.K W true mb)) :
    PS X (.Expr (.Call (.Attribute (.Name x p2) "update" apos) [b] [] cpos) pos) (tS X.K TP W fr fun env h => (match env[i]? with
      | some (some (.oD ks vs)) => (mb env h).s fun v h => (match v with
        | .dct ks' vs' => if ks.length + ks'.length ≤ Ev.L then .nx (env.set i (some (.oD (dmerge ks' vs' ks vs).1 (dmerge ks' vs' ks vs).2))) h else .bad
        | _ => .bad)
      | _ => .bad)) :=
  PSi (ps_expr (pe_bm PySem.F.plainAttrs_dict PySem.F.slot_dict_update PySem.F.type_dict_update mt_dupd (pe_var hx hvis hd hcd) (pa_cons hb pa_nil (star_cons na)) rfl (few1 na) hline (star_cons na) rfl) rfl) fun D σ H ⟨N0, ρ0, H0, Ld, N, ρ, env, h, s, q⟩ => by
    dsimp only at q
    split at q
    · rename_i ks vs e
      obtain ⟨d, kvs, hd, hp, hn, hk, kok, ra⟩ := s.se.od i ks vs e
      have hp0 := hp.1 (s.unl d)
      refine ⟨.ref d, hd, .inr (.inr (.inl ⟨rfl, .inl ⟨kvs, hp0⟩⟩)), sM s q fun v h1 ρ1 H1 y e1 s1 ry q1 => ?_⟩
      have hp1 : H1 d = some (.dK kvs) := e1.keep _ _ hp0 hn trivial
      have oi : ownA env i := .inr ⟨ks, vs, e⟩
      obtain ⟨nd, _⟩ := s1.own i d oi hd
      cases v with
      | dct ks' vs' =>
        simp only at q1
        split at q1
        · rename_i hl
          obtain ⟨d', kvs', rfl, hp', hn', hk', kok', ra'⟩ := ry
          have e1' : kvs.length = ks.length := by simpa using congrArg List.length hk
          have e2' : kvs'.length = ks'.length := by simpa using congrArg List.length hk'
          refine ⟨d, d', kvs, kvs', rfl, rfl, fun z => hn'.1 (by rw [← z]; exact nd), hp1, hp'.2, by rw [e1', e2', L_eq]; exact hl, q1 N ρ1 σ _ ?_⟩
          obtain ⟨r1, r2⟩ := dmerge_rel kok.1 hk (RVs.mono (N' := N) e1 Nle.rfl ra) hk' ra'
          exact s1.upd oi hd (e1.avoid hp0 hn) (.inr ⟨_, hp1⟩) (.inr ⟨_, rfl⟩) ⟨_, upd_same, e1.avoid hp0 hn, r1, dmerge_ok _ _ _ _ kok'.2 kok, RVs.updA nd (.inr ⟨_, hp1⟩) r2⟩
        · exact (show False from q1).elim
      | _ => exact (show False from q1).elim
    · exact (show False from q).elim
/-- return of what was built -/
theorem SretOwn {x : Str} {p2 : Pos} (hx : X.N[i]? = some x) (hvis : Vis X.env.scope x) (hd : (x == ("__debug__" : Str)) = false) (hcd : (x == ("__classdict__" : Str)) = false) :
    PS X (.Return (some (.Name x p2)) pos) (tS X.K TP W fr fun env h => (match env[i]? with
      | some (some (.oL xs)) => .rt (.lst xs) h
      | some (some (.oD ks vs)) => .rt (.dct ks vs) h
      | _ => .bad)) :=
  PSi (ps_ret (pe_var hx hvis hd hcd)) fun D σ H ⟨N0, ρ0, H0, Ld, N, ρ, env, h, s, q⟩ => by
    have key : ∀ a, ownA env i → σ[i]? = some (some (.ref a)) → H0 a = none ∧ ¬ N0.a a ∧ (∀ vs xs, RVs X.K N ρ H vs xs → RVs X.K N0 ρ H vs xs ∧ RVs X.K ⟨fun b => N0.a b ∨ b = a, N0.z⟩ ρ H vs xs) ∧ RH X.K ⟨fun b => N0.a b ∨ b = a, N0.z⟩ ρ H h := fun a oi ea => by
      obtain ⟨na, h0⟩ := s.own i a oi ea
      have sb : ∀ b, (N0.a b ∨ b = a) → N.a b := fun b z => z.elim (s.sub b) fun z => by rw [z]; exact na
      refine ⟨h0, fun z => ?_, fun vs xs r => ⟨RVs.mono s.se.rh.refl ⟨fun b z => .inl (s.sub b z), fun p z => (s.unl p z).elim⟩ r, RVs.mono s.se.rh.refl ⟨fun b z => .inl (sb b z), fun p z => (s.unl p z).elim⟩ r⟩, s.se.rh.sub sb fun p z => (s.unl p z).elim⟩
      obtain ⟨o, ho⟩ := s.trk a z
      rw [h0] at ho; cases ho
    dsimp only at q
    split at q
    · rename_i xs e
      obtain ⟨d, ys, hd, hp, hn, ra⟩ := s.se.ol i xs e
      obtain ⟨k1, k2, k3, k4⟩ := key d (.inl ⟨xs, e⟩) hd
      exact ⟨.ref d, hd, q ρ H _ s.ext s.rh0 ⟨d, ys, rfl, hp, ⟨k2, hn⟩, (k3 _ _ ra).1⟩ fun _ => ⟨d, ys, rfl, k1, hp, hn, (k3 _ _ ra).2, k4⟩⟩
    · rename_i ks vs e
      obtain ⟨d, kvs, hd, hp, hn, hk, kok, ra⟩ := s.se.od i ks vs e
      obtain ⟨k1, k2, k3, k4⟩ := key d (.inr ⟨ks, vs, e⟩) hd
      exact ⟨.ref d, hd, q ρ H _ s.ext s.rh0 ⟨d, kvs, rfl, .of (hp.1 (s.unl d)), ⟨k2, hn⟩, hk, kok, (k3 _ _ ra).1⟩ fun _ => ⟨d, kvs, rfl, k1, hp.1 (s.unl d), hn, hk, kok, (k3 _ _ ra).2, k4⟩⟩
    · exact (show False from q).elim
def mFreeze (i : Nat) : MS := fun env h => (match env[i]? with
    | some (some (.oL xs)) => .nx (env.set i (some (.val (.lst xs)))) h
    | some (some (.oD ks vs)) => .nx (env.set i (some (.val (.dct ks vs)))) h
    | _ => .bad)
def mShare (i : Nat) : MS := fun env h => (match env[i]? with
    | some (some (.oL xs)) => .nx (env.set i (some (.val (.ref h.length)))) (h ++ [xs])
    | _ => .bad)
theorem Sfreeze {sts : List Stmt} {m : MS} (hr : PSs X sts (tS X.K TP W fr m)) : PSs X sts (tS X.K TP W fr fun env h => (mFreeze i env h).thn m) :=
  PSsi hr fun D σ H ⟨N0, ρ0, H0, Ld, N, ρ, env, h, s, q⟩ => by
    unfold mFreeze at q
    dsimp only at q
    split at q
    · rename_i xs e
      obtain ⟨N1, s1⟩ := s.freeL e
      exact ⟨N0, ρ0, H0, Ld, N1, ρ, _, h, s1, q⟩
    · rename_i ks vs e
      obtain ⟨N1, s1⟩ := s.freeD e
      exact ⟨N0, ρ0, H0, Ld, N1, ρ, _, h, s1, q⟩
    · exact (show False from q).elim
theorem Sshare {sts : List Stmt} {m : MS} (hr : PSs X sts (tS X.K TP W fr m)) : PSs X sts (tS X.K TP W fr fun env h => (mShare i env h).thn m) :=
  PSsi hr fun D σ H ⟨N0, ρ0, H0, Ld, N, ρ, env, h, s, q⟩ => by
    unfold mShare at q
    dsimp only at q
    split at q
    · rename_i xs e
      obtain ⟨N1, ρ1, s1⟩ := s.share e
      exact ⟨N0, ρ0, H0, Ld, N1, ρ1, _, _, s1, q⟩
    · exact (show False from q).elim
end
end EvS
end
section
set_option Elab.async false
set_option linter.all false
set_option maxRecDepth 100000
set_option maxHeartbeats 1000000
/-! EvE: loops. -/
namespace EvS
open PySem PySem.Spec PyProof.Rows L2 Ev
section
variable {K : PySem.W.Frag} {TP : List Addr} {W : Nat → Hp → Prop} {fr : Bool} {N0 N : Nz} {ρ0 ρ ρ1 : List Addr} {H0 H H1 : Hp} {h h1 : Hh} {env : Ev.Env} {σ : L2.St} {Ld L : List (EV × V)} {a : Addr} {i : Nat} {D : Ends}
/-- the heap without the lists and dicts that are built here -/
theorem SS.mask (s : SS K TP N0 ρ0 H0 Ld N ρ env h σ H) (hL : ∀ p ∈ L, RV K N ρ H p.1 p.2) : ∃ Hs, SS K TP N0 ρ Hs (Ld ++ L) N ρ env h σ H ∧ Ext K ρ0 H0 ρ Hs ∧ (∀ ρ' H', Ext K ρ Hs ρ' H' → Mk K N ρ H ρ' H') := by
  have ⟨Hs, m1, m2⟩ : ∃ Hs : Hp, (∀ b, Hs b = H b ∨ (Hs b = none ∧ N.a b ∧ ¬ N0.a b)) ∧ ∀ b, N.a b → ¬ N0.a b → Hs b = none := by
    classical
    refine ⟨fun b => if N.a b ∧ ¬ N0.a b then none else H b, fun b => ?_, fun b h1 h2 => if_pos ⟨h1, h2⟩⟩
    by_cases hb : N.a b ∧ ¬ N0.a b
    · exact .inr ⟨if_pos hb, hb⟩
    · exact .inl (if_neg hb)
  have n0 : ∀ b, H0 b = none → ¬ N0.a b := fun b h1 h2 => by
    obtain ⟨o, ho⟩ := s.trk b h2
    rw [h1] at ho; cases ho
  have kn : ∀ b, N.a b → ¬ N0.a b → H0 b = none ∧ b ∉ ρ ∧ LD (H b) := fun b h1 h2 => (s.knd b h1).resolve_left h2
  have bk : ∀ b o, Hs b = some o → H b = some o := fun b o e => by
    rcases m1 b with z | ⟨z, _⟩
    · rw [← z]; exact e
    · rw [z] at e; cases e
  have tb : ∀ P, LamX.TabS H0 P lamQ → LamX.TabS Hs P lamQ := fun P t => by
    refine tabS_of (s.ext.tabs P t) fun b o z k => ?_
    rcases m1 b with y | ⟨_, y1, y2⟩
    · rw [y]; exact z
    · obtain ⟨_, _, ⟨us, l⟩ | ⟨us, l⟩⟩ := kn b y1 y2 <;> rw [l] at z <;> cases z <;> rcases k with ⟨ps, k⟩ | ⟨c, q, k⟩ <;> cases k
  refine ⟨Hs, ⟨s.unl0, s.unl, fun b q => ?_, s.sub, fun b q => ?_, ⟨⟨[], by simp⟩, fun b q => .inl q, fun b o q _ _ => bk b o q, fun b ps q => ⟨#[], by rw [bk b _ q]; simp⟩, fun p ys q => ?_, fun b m => ?_, fun P t => tabS_of t fun b o z _ => bk b o z⟩, s.se, fun j b q z => ?_, s.dst, fun p q => ?_, fun p hp => tb _ (s.tab p hp)⟩, ⟨s.ext.pre, s.ext.fresh, fun b o q n t => ?_, fun b ps q => ?_, fun p ys q => ?_, fun b m => ?_, fun P t => ?_⟩, fun ρ' H' e => ⟨Hs, fun b => ?_, e⟩⟩
  · obtain ⟨o, ho⟩ := s.trk b q
    obtain ⟨u, hu⟩ := s.ext.trk ho
    rcases m1 b with z | ⟨_, _, z⟩
    · exact ⟨u, by rw [z]; exact hu⟩
    · exact (z q).elim
  · by_cases hb : N0.a b
    · exact .inl hb
    · exact .inr ⟨m2 b q hb, (kn b q hb).2⟩
  · rcases q with (q | ⟨o, q⟩) | q
    · exact .inl (.inl (bk _ _ q))
    · exact .inl (.inr ⟨o, bk _ _ q⟩)
    · exact .inr q
  · obtain ⟨ys, q⟩ := s.se.rh.shr b m
    exact ⟨_, q⟩
  · obtain ⟨h1, h2⟩ := s.own j b q z
    exact ⟨h1, m2 b h1 (n0 b h2)⟩
  · rcases List.mem_append.mp q with q | q
    · exact s.held p q
    · exact hL p q
  · rcases m1 b with z | ⟨_, z1, z2⟩
    · rw [z]; exact s.ext.keep b o q n t
    · rw [(kn b z1 z2).1] at q; cases q
  · rcases m1 b with z | ⟨_, z1, z2⟩
    · rw [z]; exact s.ext.tbl b ps q
    · rw [(kn b z1 z2).1] at q; cases q
  · rcases s.ext.tups p ys q with q | q
    · rcases m1 p with z | ⟨_, z1, z2⟩
      · rcases q with q | ⟨o, q⟩
        · exact .inl (.inl (by rw [z]; exact q))
        · exact .inl (.inr ⟨o, by rw [z]; exact q⟩)
      · obtain ⟨_, _, ⟨us, l⟩ | ⟨us, l⟩⟩ := kn p z1 z2 <;> rcases q with q | ⟨o, q⟩ <;> rw [l] at q <;> cases q
    · exact .inr q
  · obtain ⟨o, ho⟩ := s.ext.shr b m
    rcases m1 b with z | ⟨_, z1, z2⟩
    · exact ⟨o, by rw [z]; exact ho⟩
    · obtain ⟨more, hm⟩ := s.ext.pre
      exact ((kn b z1 z2).2.1 (by rw [hm]; exact List.mem_append_left _ m)).elim
  · refine tabS_of (s.ext.tabs P t) fun b o z k => ?_
    rcases m1 b with y | ⟨_, y1, y2⟩
    · rw [y]; exact z
    · obtain ⟨_, _, ⟨us, l⟩ | ⟨us, l⟩⟩ := kn b y1 y2 <;> rw [l] at z <;> cases z <;> rcases k with ⟨ps, k⟩ | ⟨c, q, k⟩ <;> cases k
  · rcases m1 b with z | ⟨z, z1, z2⟩
    · exact .inl z
    · exact .inr ⟨z, z1, (kn b z1 z2).2.2⟩
theorem SS.back {Hs : Hp} {ρs : List Addr} (t0 : Tbs TP H0) (trk : ∀ b, N0.a b → ∃ o, H0 b = some o) (e : Ext K ρ0 H0 ρs Hs) (s : SS K TP N0 ρs Hs (Ld ++ L) N ρ env h σ H) : SS K TP N0 ρ0 H0 Ld N ρ env h σ H where
  unl0 := s.unl0
  unl := s.unl
  trk := trk
  sub := s.sub
  knd := fun b q => (s.knd b q).imp id fun z => ⟨none_back e z.1, z.2⟩
  ext := e.trans s.ext
  se := s.se
  own := fun j b q z => ⟨(s.own j b q z).1, none_back e (s.own j b q z).2⟩
  dst := s.dst
  held := fun p q => s.held p (List.mem_append_left _ q)
  tab := t0
theorem FV.back {Hs : Hp} {ρs : List Addr} {v : EV} {x : V} (e : Ext K ρ0 H0 ρs Hs) (f : FV K N0 Hs ρ H h v x) : FV K N0 H0 ρ H h v x := by
  cases v with
  | lst xs => obtain ⟨a, ys, h1, h2, h3⟩ := f; exact ⟨a, ys, h1, none_back e h2, h3⟩
  | dct ks vs => obtain ⟨a, ys, h1, h2, h3⟩ := f; exact ⟨a, ys, h1, none_back e h2, h3⟩
  | _ => exact f.elim
end
section
variable {X : Cx} {TP : List Addr} {W : Nat → Hp → Prop} {fr : Bool} {tg iter : Expr} {body : List Stmt} {pos : Pos} {t : Ev.T} {ms : MN} {mb : MS}
def mFor (t : Ev.T) (ms : MN) (mb : MS) : MS := fun env h => (match ms env h with
    | .ok xs h => turns t mb xs env h
    | .exc x h => .exc x h
    | .bad => .bad)
theorem Sfor (hp : PassesOwn (model X.prog X.w) X.A X.env X.xe) (hc : X.calm = true) (hi : PI X tg iter (tI X.K W true ms)) (hg : PG X tg (gE X.K t)) (hb : PSs X body (tS X.K TP W fr mb)) (hs : ∀ x, foldedSetIterable iter X.env x = pure x) :
    PS X (.For tg iter body [] pos) (tS X.K TP W fr (mFor t ms mb)) :=
  PSi (ps_for hp hc hi hg hb hs) fun D σ H ⟨N0, ρ0, H0, Ld, N, ρ, env, h, s, q⟩ => by
    refine ⟨N, ρ, env, h, s.se, fun _ => s.unl, ?_⟩
    unfold mFor at q
    cases e : ms env h with
    | bad => rw [e] at q; exact q
    | exc x h1 =>
      rw [e] at q
      exact fun ρ1 H1 e1 r1 => q ρ1 H1 (s.ext.trans e1) (s.mono e1 r1).rh0
    | ok xs h1 =>
      rw [e] at q
      intro ρ1 H1 e1 r1 J hJ
      obtain ⟨G, Y, L, w, hG, hL, hItem⟩ := hJ
      have s1 := s.mono e1 r1
      obtain ⟨Hs, sm, e0, hMk⟩ := s1.mask hL
      refine for_it w (fun i σ H => ∃ N' ρ' env' h', SS X.K TP N0 ρ1 Hs (Ld ++ L) N' ρ' env' h' σ H ∧ outS X.K TP W fr N0 ρ0 H0 Ld (turns t mb (xs.drop i) env' h') D) ⟨N, ρ1, env, h1, sm, q⟩ ?_ ?_ ?_
      · intro i σ H _ hh
        obtain ⟨N', ρ', env', h', s', _⟩ := hh
        exact hG _ _ (hMk _ _ s'.ext)
      · intro i x σ H H' hi hh y
        obtain ⟨N', ρ', env', h', s', q'⟩ := hh
        have hv : xs[i]? = some xs[i] := by simp [hi]
        obtain ⟨e2, rh2, rv⟩ := hItem i ρ' H h' x H' xs[i] N' s'.se.rh (fun p hp => s'.held p (List.mem_append_right _ hp)) y hv
        have s2 := s'.mono e2 rh2
        rw [List.drop_eq_getElem_cons hi] at q'
        unfold turns at q'
        cases ep : t.put xs[i] env' with
        | none => rw [ep] at q'; exact (show False from q').elim
        | some env1 =>
          rw [ep] at q'
          refine ⟨N', ρ', fun e s => SS X.K TP N0 ρ1 Hs (Ld ++ L) N' ρ' e h' s H', xs[i], env', env1, s2, rv, ep, fun e s j w z _ p r => p.set r, fun σ' p => ⟨N0, ρ1, Hs, Ld ++ L, N', ρ', env1, h', p, ?_⟩⟩
          simp only at q'
          cases em : mb env1 h' with
          | nx env2 h2 =>
            rw [em] at q'
            exact fun N2 ρ2 σ2 H2 s3 => ⟨N2, ρ2, env2, h2, s3, q'⟩
          | rt v h2 =>
            rw [em] at q'
            exact fun ρ2 H2 x2 ex rh rv2 f => q' ρ2 H2 x2 (e0.trans ex) rh rv2 fun z => (f z).back e0
          | exc c h2 =>
            rw [em] at q'
            exact fun ρ2 H2 ex rh => q' ρ2 H2 (e0.trans ex) rh
          | bad => rw [em] at q'; exact (show False from q').elim
      · intro σ H hh
        obtain ⟨N', ρ', env', h', s', q'⟩ := hh
        rw [List.drop_length] at q'
        exact q' N' ρ' σ H (.back s.tab s.trk e0 s')
end
section
variable {X : Cx} {TP : List Addr} {W : Nat → Hp → Prop} {fr : Bool} {elt tg iter : Expr} {ifs : List Expr} {scope : Scope} {own : List (Str × Nat)} {pos spos : Pos} {t : Ev.T} {ms : MN} {mt me : M} {i : Nat}
/-- name = [..], on one line -/
theorem SsetC {y : Str} {py : Pos} (hc : X.calm = true) (hN : X.N.Nodup) (hy : X.N[i]? = some y) (hyl : X.env.scope.names.lookup y = some .local) (hsw : swapsWith (.ListComp elt [⟨tg, iter, ifs, 0⟩] scope pos) (some (.Name y py)) spos.line X.env = pure true)
    (hi : PI X tg iter (tI X.K W true ms)) (ok : BlkOk X.N X.env.scope scope own) (hsl : ∀ i ∈ slots t, i ∈ own.map (·.2))
    (hg : ∀ (s : Shared) (H : Hp) (C : Addr) (cl : List (Str × Addr)) (fp : List Addr), PG (X.blk s H scope (compEnvC scope cl C X.env) fp) tg (gE X.K t))
    (ht : ∀ (s : Shared) (H : Hp) (C : Addr) (cl : List (Str × Addr)) (fp : List Addr), PTs (X.blk s H scope (compEnvC scope cl C X.env) fp) ifs (tT X.K (fun _ _ => False) true mt))
    (he : ∀ (s : Shared) (H : Hp) (C : Addr) (cl : List (Str × Addr)) (fp : List Addr), PE (X.blk s H scope (compEnvC scope cl C X.env) fp) elt (tM X.K (fun _ _ => False) true me)) (hs : notSet iter = true) :
    PS X (.Assign [.Name y py] (.ListComp elt [⟨tg, iter, ifs, 0⟩] scope pos) spos) (tS X.K TP W fr fun env h => (mComp t (own.map (·.2)) ms mt me env h).s fun v h => (match ownR false v with
      | some w => .nx (env.set i (some w)) h
      | none => .bad)) :=
  PSi (ps_setLc hc hN hy hyl hsw hi ok hg ht he (fold_of hs)) fun D σ H ⟨N0, ρ0, H0, Ld, N, ρ, env, h, s, q⟩ => by
    have t1 : tM X.K W true (mComp t (own.map (·.2)) ms mt me) σ H (fun x H1 => D.nx (σ.set i (some x)) H1) := sM s q fun v h1 ρ1 H1 x e1 s1 rx q1 => q1 N ρ1 _ H1 (s1.set rx)
    obtain ⟨N, ρ, env, h, se, nf, q⟩ := t1
    exact ⟨N, ρ, env, h, se, nf, og_mono (og_bind q) fun xs h1 ρ1 H1 _ e1 rh1 q1 J hJ D hD => comp_core hsl (se.mono e1 rh1) nf q1 hJ hD⟩
end
end EvS
end
section
set_option Elab.async false
set_option linter.all false
set_option maxRecDepth 100000
set_option maxHeartbeats 1000000
/-! EvF: dicts of the module; minus; what is new, to be built on. -/
namespace EvS
open PySem PySem.Spec PyProof.Rows L2 Ev
def mNeg (m : M) : M := fun env h => (m env h).bind fun x h => opNeg x h
def mInG (ks : List K0) (m : M) : M := fun env h => (m env h).bind fun y h => (match y with
    | .str s => okB (decide (K0.s s ∈ ks)) h
    | _ => .bad)
def mIdxG (ks : List K0) (vs : List EV) (m : M) : M := fun env h => (m env h).bind fun y h => (match y with
    | .str s => (match dget ks vs (K0.s s) with
      | some v => .ok v h
      | none => .bad)
    | _ => .bad)
/-- a dict of the module: the keys are texts -/
structure GD (X : Cx) (x : Str) (ks : List K0) (vs : List EV) : Prop where
  ex : ∃ d es n, X.mg x = some (.ref d) ∧ KDict X.K X.w d es n ∧ (∀ s, txt s = true → ∃ r, PySem.W.nsIn X.K d (toS s) = some r ∧ r.isSome = decide (K0.s s ∈ ks)) ∧
    ∀ s v, txt s = true → dget ks vs (K0.s s) = some v → ∃ u0 v0, PySem.W.nsIn X.K d (toS s) = some (some u0) ∧ RelV v0 u0 ∧ ∀ N ρ H, RV X.K N ρ H v v0
section
variable {X : Cx} {W : Nat → Hp → Prop} {fz : Bool} {a b c : Expr} {ma mb mc : M} {ms : MN} {pos : Pos}
theorem Pneg (ha : PE X a (tM X.K W fz ma)) : PE X (.UnaryOp .USub a pos) (tM X.K W fz (mNeg ma)) :=
  PEi (pe_un un_neg ha) fun σ H Q ⟨N, ρ, env, h, se, nf, q⟩ => tM_bind se nf q fun v h1 ρ1 H1 x e1 se1 nf1 rx q1 => by
    cases v with
    | int i =>
      cases (show x = _ from rx)
      exact ⟨i, rfl, og_here q1 se1.rh _ rfl⟩
    | _ => exact (show False from q1).elim
theorem PinG {x : Str} {p : Pos} {ks : List K0} {vs : List EV} (hg : Gl X x) (hdb : (x == ("__debug__" : Str)) = false) (g : GD X x ks vs) (ha : PE X a (tM X.K W fz ma)) : PE X (.Compare a [.In] [.Name x p] pos) (tM X.K W fz (mInG ks ma)) := by
  obtain ⟨d, es, n, hm, D, h1, h2⟩ := g.ex
  refine PEi (pe_cmpR (op_in_kd D) ha (pe_glob hg hm (v := .ref d) rfl hdb) rfl) fun σ H Q ⟨N, ρ, env, h, se, nf, q⟩ => tM_bind se nf q fun v h3 ρ1 H1 x e1 se1 nf1 rx q1 => ?_
  cases v with
  | str s =>
    obtain ⟨rfl, t⟩ := rx
    obtain ⟨r, hr, hi⟩ := h1 s t
    exact ⟨toS s, r, rfl, rfl, hr, og_here q1 se1.rh _ (by rw [hi]; rfl)⟩
  | _ => exact (show False from q1).elim
theorem PidxG {x : Str} {p : Pos} {ks : List K0} {vs : List EV} (hg : Gl X x) (hdb : (x == ("__debug__" : Str)) = false) (g : GD X x ks vs) (hs : PlainIx a) (ha : PE X a (tM X.K W fz ma)) : PE X (.Subscript (.Name x p) a pos) (tM X.K W fz (mIdxG ks vs ma)) := by
  obtain ⟨d, es, n, hm, D, h1, h2⟩ := g.ex
  refine PEi (pe_ix ix_kdict (pe_glob hg hm (v := .ref d) rfl hdb) ha hs) fun σ H Q ⟨N, ρ, env, h, se, nf, q⟩ => tM_bind se nf q fun v h3 ρ1 H1 x e1 se1 nf1 rx q1 => ?_
  cases v with
  | str s =>
    obtain ⟨rfl, t⟩ := rx
    dsimp only at q1
    split at q1
    · rename_i w e
      obtain ⟨u0, v0, k1, k2, k3⟩ := h2 s w t e
      exact ⟨d, toS s, v0, rfl, rfl, ⟨es, n, u0, D.at_, D.lit, k1, k2⟩, og_here q1 se1.rh _ (k3 _ _ _)⟩
    · exact (show False from q1).elim
  | _ => exact (show False from q1).elim
/-! ### what is new -/
theorem tF_mF {K : PySem.W.Frag} {m : M} {σ : L2.St} {H : Hp} {Q : VK} (t : tF K W fz (mF m) σ H Q) : tF K W fz m σ H Q := by
  obtain ⟨N, ρ, env, h, se, nf, q⟩ := t
  refine ⟨N, ρ, env, h, se, nf, ?_⟩
  unfold mF at q
  cases e : m env h with
  | bad => rw [e] at q; exact q
  | exc c h1 => rw [e] at q; exact q
  | ok v h1 =>
    rw [e] at q
    simp only [Res.bind_ok] at q
    cases v with
    | lst xs => exact q
    | dct ks vs => exact q
    | _ => exact (show False from q).elim
theorem XF0 {m : M} (h : PE X a (tF X.K W true m)) : PE X a (tX X.K W true m) := PEi h fun σ H Q t => tF_mF t
theorem XM {m : M} (h : PE X a (tM X.K W true m)) : PE X a (tX X.K W false m) := h
theorem XFadd (ha : PE X a (tM X.K W true ma)) (hb : PE X b (tM X.K W true mb)) : PE X (.BinOp a .Add b pos) (tX X.K W true (mOp opAdd ma mb)) :=
  PEi (Fadd ha hb) fun σ H Q ⟨N, ρ, env, h, se, nf, q⟩ => by
    refine ⟨N, ρ, env, h, se, nf, ?_⟩
    unfold mF mOp at q
    show og X.K W N ρ H ((ma env h).bind fun x h => (mb env h).bind fun y h => (match x, y with
      | .lst _, .lst _ => opAdd x y h
      | _, _ => .bad)) _
    cases e : ma env h with
    | bad => rw [e] at q; exact q
    | exc c h1 => rw [e] at q; exact q
    | ok x h1 =>
      rw [e] at q
      simp only [Res.bind_ok] at q ⊢
      cases e2 : mb env h1 with
      | bad => rw [e2] at q; exact q
      | exc c h2 => rw [e2] at q; exact q
      | ok y h2 =>
        rw [e2] at q
        simp only [Res.bind_ok] at q ⊢
        cases x <;> cases y <;> first | exact (show False from q).elim | skip
        all_goals (simp only [opAdd] at q ⊢; split at q <;> first | exact (show False from q).elim | (rw [if_pos (by assumption)]; exact q))
end
end EvS
end
section
set_option Elab.async false
set_option linter.all false
set_option maxRecDepth 100000
set_option maxHeartbeats 1000000
/-! EvG: which expression of the program is which own expression. -/
namespace EvS
open PySem PySem.Spec PyProof.Rows L2 Ev
/-- what is known of the module -/
structure Gs where
  fns : List (Str × (Nat × Nat × Bool))
  gls : List (Str × Nat)
  dcs : List (Str × Nat)
  blt : List Str
  exs : List (Str × Nat)
  N : List Str
  rep : Bool := false
  spB : Nat → Stmt → Bool := fun _ _ => false
def okN (x : Str) : Bool := !(x == ("__debug__" : Str)) && !(x == ("__classdict__" : Str)) && !(x == ("__name__" : Str))
def visB (sc : Scope) (x : Str) : Bool := match sc.names.lookup x with
  | some .local => true
  | some .cell => true
  | some .free => true
  | _ => false
def locB (sc : Scope) (x : Str) : Bool := match sc.names.lookup x with
  | some .local => true
  | _ => false
def glB (sc : Scope) (x : Str) : Bool := (match sc.names.lookup x with
  | some .globalImplicit => true
  | _ => false) && okN x
/-- the name x is slot i -/
def nmOk (G : Gs) (sc : Scope) (i : Nat) (x : Str) : Bool := (G.N[i]? == some x) && visB sc x && okN x
def bltB (G : Gs) (sc : Scope) (x : Str) : Bool := glB sc x && G.blt.contains x
def opB : Op → Operator → Bool
  | .add, .Add => true
  | .sub, .Sub => true
  | .mul, .Mult => true
  | .fdiv, .FloorDiv => true
  | .mod, .Mod => true
  | .pow, .Pow => true
  | _, _ => false
def cpB : Cp → CmpOp → Bool
  | .eq, .Eq => true
  | .ne, .NotEq => true
  | .lt, .Lt => true
  | .le, .LtE => true
  | .gt, .Gt => true
  | .ge, .GtE => true
  | .is_, .Is => true
  | .isnot, .IsNot => true
  | .in_, .In => true
  | .notin, .NotIn => true
  | _, _ => false
def biB : Bi → Str → Bool
  | .len, x => x == ("len" : Str)
  | .int_, x => x == ("int" : Str)
  | .abs, x => x == ("abs" : Str)
  | .all, x => x == ("all" : Str)
  | .sorted, x => x == ("sorted" : Str)
  | .tuple, x => x == ("tuple" : Str)
  | .list, x => x == ("list" : Str)
  | .dict, x => x == ("dict" : Str)
  | _, _ => false
def tyS : Ty → Str
  | .int => "int"
  | .bool => "bool"
  | .str => "str"
  | .tuple => "tuple"
  | .dict => "dict"
/-- an index whose step is plain -/
def plainB : Expr → Bool
  | .Name _ _ => true
  | .Constant _ _ _ => true
  | .Subscript _ _ _ => true
  | .Call _ _ _ _ => true
  | .BinOp _ _ _ _ => true
  | .UnaryOp _ _ _ => true
  | _ => false
theorem plain_of {b : Expr} (h : plainB b = true) : PlainIx b := by
  cases b <;> first | (intro o i; rfl) | (exact Bool.noConfusion h)
example {x : Str} {env : PySem.Env} : env.kindOf x = env.scope.names.lookup x := rfl
mutual
def chkT (G : Gs) (cl : Bool) : Ev.T → Scope → Expr → Bool
  | .nm i, sc, e => (match e with
    | .Name x _ => (G.N[i]? == some x) && (match sc.names.lookup x with
      | some .local => true
      | some .cell => cl
      | _ => false)
    | _ => false)
  | .tup ts, sc, e => (match e with
    | .Tuple es _ _ => chkTs G cl ts sc es && es.all ns
    | _ => false)
def chkTs (G : Gs) (cl : Bool) : List Ev.T → Scope → List Expr → Bool
  | [], _, es => es.isEmpty
  | t :: ts, sc, es => (match es with
    | e :: r => chkT G cl t sc e && chkTs G cl ts sc r
    | [] => false)
end
def nsAll (es : List Expr) : Bool := es.all ns
def ownNm (N : List Str) (own : List Nat) : List (Str × Nat) := own.filterMap fun i => N[i]?.map fun x => (x, i)
def blkB (N : List Str) (sc scope : Scope) (own : List (Str × Nat)) : Bool :=
  (match scope.kind with
  | .function => true
  | _ => false) && scope.names.all (fun y => decide (scope.names.lookup y.1 = some y.2)) && own.all (fun p => decide (N[p.2]? = some p.1)) &&
  scope.names.all (fun y => !(y.2 == .free) || (match sc.names.lookup y.1 with
    | some .cell => true
    | some .free => true
    | _ => false)) &&
  scope.names.all (fun y => !(y.2 == .local || y.2 == .cell) || (own.any fun p => p.1 == y.1) || !(N.contains y.1))
def isTup : Expr → Bool
  | .Tuple _ _ _ => true
  | _ => false
/-- no dict is locked while the items are walked -/
def keysFree : Sr → Bool
  | .keys _ => false
  | .keysO _ => false
  | _ => true
mutual
/-- e is m -/
def chkE (G : Gs) : E → Scope → Bool → Expr → Bool
  | .var i, sc, fz, e => (match e with
    | .Name x _ => nmOk G sc i x
    | _ => false)
  | .non, sc, fz, e => (match e with
    | .Constant .none _ _ => true
    | _ => false)
  | .bl b, sc, fz, e => (match e with
    | .Constant (.bool c) _ _ => b == c
    | _ => false)
  | .int i, sc, fz, e => (match e with
    | .Constant (.int j) _ _ => i == j
    | _ => false)
  | .str s, sc, fz, e => (match e with
    | .Constant (.str x) _ _ => (x == toS s) && txt s
    | _ => false)
  | .glob g, sc, fz, e => (match e with
    | .Name x _ => glB sc x && (G.gls.lookup x == some g)
    | _ => false)
  | .tup es, sc, fz, e => (match e with
    | .Tuple xs _ _ => chkEs G es sc fz xs
    | _ => false)
  | .lst es, sc, fz, e => (match e with
    | .List xs _ => chkEs G es sc fz xs
    | _ => false)
  | .dnew, sc, fz, e => (match e with
    | .Dict [] [] _ => true
    | _ => false)
  | .op o a b, sc, fz, e => (match e with
    | .BinOp x op y _ => opB o op && chkE G a sc fz x && chkE G b sc fz y
    | _ => false)
  | .neg a, sc, fz, e => (match e with
    | .UnaryOp .USub x _ => chkE G a sc fz x
    | _ => false)
  | .not_ a, sc, fz, e => (match e with
    | .UnaryOp .Not x _ => chkE G a sc fz x
    | _ => false)
  | .and_ a b, sc, fz, e => (match e with
    | .BoolOp .And (x :: y :: r) p => chkE G a sc fz x && (match r with
      | [] => chkE G b sc fz y
      | z :: r => chkE G b sc fz (.BoolOp .And (y :: z :: r) p))
    | _ => false)
  | .or_ a b, sc, fz, e => (match e with
    | .BoolOp .Or (x :: y :: r) p => chkE G a sc fz x && (match r with
      | [] => chkE G b sc fz y
      | z :: r => chkE G b sc fz (.BoolOp .Or (y :: z :: r) p))
    | _ => false)
  | .cmp c a b, sc, fz, e => (match e with
    | .Compare x [op] [y] _ => cpB c op && !(behindInMarks op y) && chkE G a sc fz x && chkE G b sc fz y
    | _ => false)
  | .chain a c b d f, sc, fz, e => (match e with
    | .Compare x [op, op'] [y, z] _ => cpB c op && cpB d op' && !(lastMarks [op, op'] [y, z]) && chkE G a sc fz x && chkE G b sc fz y && chkE G f sc fz z
    | _ => false)
  | .ite t a b, sc, fz, e => (match e with
    | .IfExp x y z _ => chkE G t sc fz x && chkE G a sc fz y && chkE G b sc fz z
    | _ => false)
  | .idx a b, sc, fz, e => (match e with
    | .Subscript x y _ => plainB y && chkE G a sc fz x && chkE G b sc fz y
    | _ => false)
  | .cut a lo hi, sc, fz, e => (match e with
    | .Subscript x (.Slice l h none _) _ => chkE G a sc fz x && chkB G lo sc fz l && chkB G hi sc fz h
    | _ => false)
  | .call f es, sc, fz, e => (match e with
    | .Call (.Name x _) (a :: r) [] _ => fz && glB sc x && (match G.fns.lookup x with
      | some (g, np, _) => g == f && decide ((a :: r).length = np)
      | none => false) && nsAll (a :: r) && chkEs G es sc fz (a :: r)
    | _ => false)
  | .bi b a, sc, fz, e => (match b with
    | .isinst t => (match e with
      | .Call (.Name x _) [y, .Name z _] [] _ => (x == ("isinstance" : Str)) && bltB G sc x && (z == tyS t) && bltB G sc z && ns y && chkE G a sc fz y
      | _ => false)
    | .items => (match e with
      | .Call (.Name x _) [.Call (.Attribute y n apos) [] [] cpos] [] _ => fz && (x == ("list" : Str)) && bltB G sc x && (n == ("items" : Str)) && base_ok y && (apos.endLine == cpos.line) && chkE G a sc fz y
      | _ => false)
    | .repr => (match e with
      | .Call (.Name x _) [y] [] _ => G.rep && (x == ("repr" : Str)) && bltB G sc x && ns y && chkE G a sc fz y
      | _ => false)
    | b => (match e with
      | .Call (.Name x _) [y] [] _ => biB b x && bltB G sc x && ns y && chkE G a sc fz y
      | _ => false))
  | .get d k, sc, fz, e => (match e with
    | .Call (.Attribute y n apos) [z] [] cpos => (n == ("get" : Str)) && base_ok y && ns z && (apos.endLine == cpos.line) && chkE G d sc fz y && chkE G k sc fz z
    | _ => false)
  | .split a c, sc, fz, e => (match e with
    | .Call (.Attribute y n apos) [.Constant (.str z) _ _] [] cpos => (n == ("split" : Str)) && (z == toS [c]) && base_ok y && (apos.endLine == cpos.line) && chkE G a sc fz y
    | _ => false)
  | .index l a, sc, fz, e => (match e with
    | .Call (.Attribute y n apos) [z] [] cpos => (n == ("index" : Str)) && base_ok y && ns z && (apos.endLine == cpos.line) && chkE G l sc fz y && chkE G a sc fz z
    | _ => false)
  | .comp t own s test elt, sc, fz, e => (match e with
    | .ListComp x [⟨tg, iter, ifs, 0⟩] scope _ => decide ((ownNm G.N own).map (·.2) = own) && blkB G.N sc scope (ownNm G.N own) && (slots t).all (fun i => own.contains i) && chkT G false t (relS scope sc) tg && notSet iter &&
        chkS G s sc fz tg iter && (match ifs with
        | [] => (match test with
          | .bl true => true
          | _ => false)
        | [c] => chkE G test (relS scope sc) (fz && keysFree s) c
        | _ => false) && chkE G elt (relS scope sc) (fz && keysFree s) x
    | _ => false)
  | .lenO i, sc, fz, e => (match e with
    | .Call (.Name f _) [.Name x _] [] _ => (f == ("len" : Str)) && bltB G sc f && nmOk G sc i x
    | _ => false)
  | .idxO i a, sc, fz, e => (match e with
    | .Subscript (.Name x _) y _ => nmOk G sc i x && plainB y && chkE G a sc fz y
    | _ => false)
  | .inO a i neg, sc, fz, e => (match e with
    | .Compare x [op] [.Name y _] _ => (match neg, op with
      | false, .In => true
      | true, .NotIn => true
      | _, _ => false) && nmOk G sc i y && chkE G a sc fz x
    | _ => false)
  | .inG a g, sc, fz, e => (match e with
    | .Compare x [.In] [.Name y _] _ => glB sc y && (G.dcs.lookup y == some g) && chkE G a sc fz x
    | _ => false)
  | .idxG g a, sc, fz, e => (match e with
    | .Subscript (.Name y _) x _ => glB sc y && (G.dcs.lookup y == some g) && plainB x && chkE G a sc fz x
    | _ => false)
def chkEs (G : Gs) : Es → Scope → Bool → List Expr → Bool
  | .nil, _, _, es => es.isEmpty
  | .cons m ms, sc, fz, es => (match es with
    | e :: r => ns e && chkE G m sc fz e && chkEs G ms sc fz r
    | [] => false)
def chkB (G : Gs) : Bd → Scope → Bool → Option Expr → Bool
  | .no, _, _, o => o.isNone
  | .so m, sc, fz, o => (match o with
    | some e => chkE G m sc fz e
    | none => false)
def chkS (G : Gs) : Sr → Scope → Bool → Expr → Expr → Bool
  | .of m, sc, fz, _, e => chkE G m sc fz e
  | .range1 m, sc, fz, _, e => (match e with
    | .Call (.Name x _) [y] [] _ => (x == ("range" : Str)) && bltB G sc x && ns y && chkE G m sc fz y
    | _ => false)
  | .range2 a b, sc, fz, _, e => (match e with
    | .Call (.Name x _) [y, z] [] _ => (x == ("range" : Str)) && bltB G sc x && ns y && ns z && chkE G a sc fz y && chkE G b sc fz z
    | _ => false)
  | .enum m, sc, fz, tg, e => (match e with
    | .Call (.Name x _) [y] [] _ => (x == ("enumerate" : Str)) && bltB G sc x && isTup tg && ns y && chkE G m sc fz y
    | _ => false)
  | .enumT m, sc, fz, tg, e => (match e with
    | .Call (.Name x _) [y] [] _ => (x == ("enumerate" : Str)) && bltB G sc x && isTup tg && ns y && chkE G m sc fz y
    | _ => false)
  | .zip a b, sc, fz, tg, e => (match e with
    | .Call (.Name x _) [y, z] [] _ => (x == ("zip" : Str)) && bltB G sc x && isTup tg && ns y && ns z && chkE G a sc fz y && chkE G b sc fz z
    | _ => false)
  | .keys i, sc, fz, _, e => (match e with
    | .Name x _ => fz && nmOk G sc i x
    | _ => false)
  | .keysO i, sc, fz, _, e => (match e with
    | .Name x _ => fz && nmOk G sc i x
    | _ => false)
end
end EvS
end
section
set_option Elab.async false
set_option linter.all false
set_option maxRecDepth 100000
set_option maxHeartbeats 1000000
/-! EvH: expressions that are found so are read so. -/
namespace EvS
open PySem PySem.Spec PyProof.Rows L2 Ev
structure XF (C : Cxt) (cls : Nat → Value) (G : Gs) (X : Cx) : Prop where
  calm : X.calm = true
  hN : X.N = G.N
  nd : X.N.Nodup
  units : X.A.units + 65 < cLine
  fn : ∀ x f np fr, G.fns.lookup x = some (f, np, fr) → ∃ k ad fd ps, FnOk X.prog X.w X.K X.mg X.base (L2.CX X.prog X.w) k ad fd ps (spE X.K cls np fr (C.callF f)) ∧ Room k X.A ∧ X.mg x = some (.ref ad) ∧ PySem.W.keepIn X.K (.ref ad) = true ∧ Binds X.K fd ps []
  gl : ∀ x g, G.gls.lookup x = some g → ∃ v u, X.mg x = some u ∧ RelV v u ∧ ∀ N ρ H, RV X.K N ρ H (C.glob g) v
  dc : ∀ x g, G.dcs.lookup x = some g → GD X x (C.dct g).1 (C.dct g).2
  bl : ∀ x, x ∈ G.blt → X.mg x = none
  rp : G.rep = true → X.A.guards = some []
section
variable {C : Cxt} {cls : Nat → Value} {G : Gs} {X : Cx}
theorem XF.blk (F : XF C cls G X) {s : Shared} {H : Hp} {scope : Scope} {cenv : PySem.Env} {fp : List Addr} : XF C cls G (X.blk s H scope cenv fp) :=
  ⟨F.calm, F.hN, F.nd, F.units, F.fn, F.gl, fun x g h => ⟨(F.dc x g h).ex⟩, F.bl, F.rp⟩
theorem takes0 : Takes X (wx cls fun _ _ => False) := fun u s' ⟨a, B, sI, pins, σ, H, c, d, e, I, nb, up, sky, na, os, ag, w⟩ => by
  obtain ⟨k, _, _, z⟩ := w
  exact z.elim
theorem okN_of {x : Str} (h : okN x = true) : (x == ("__debug__" : Str)) = false ∧ (x == ("__classdict__" : Str)) = false ∧ x ≠ "__name__" := by
  unfold okN at h
  simp only [Bool.and_eq_true, Bool.not_eq_true'] at h
  exact ⟨h.1.1, h.1.2, fun e => by rw [e] at h; simp at h⟩
theorem nm_of (F : XF C cls G X) {sc : Scope} {i : Nat} {x : Str} (hs : X.env.scope = sc) (h : nmOk G sc i x = true) : X.N[i]? = some x ∧ Vis X.env.scope x ∧ (x == ("__debug__" : Str)) = false ∧ (x == ("__classdict__" : Str)) = false := by
  unfold nmOk at h
  simp only [Bool.and_eq_true, beq_iff_eq] at h
  obtain ⟨⟨h1, h2⟩, h3⟩ := h
  obtain ⟨k1, k2, _⟩ := okN_of h3
  refine ⟨by rw [F.hN]; exact h1, ?_, k1, k2⟩
  rw [hs]
  unfold visB at h2
  split at h2
  · rename_i e; exact .inl e
  · rename_i e; exact .inr (.inl e)
  · rename_i e; exact .inr (.inr e)
  · cases h2
theorem gl_of {sc : Scope} {x : Str} (hs : X.env.scope = sc) (h : glB sc x = true) : Gl X x ∧ (x == ("__debug__" : Str)) = false ∧ x ≠ "__name__" := by
  unfold glB at h
  simp only [Bool.and_eq_true] at h
  obtain ⟨h1, h2⟩ := h
  obtain ⟨k1, _, k3⟩ := okN_of h2
  refine ⟨?_, k1, k3⟩
  split at h1
  · rename_i e
    show X.env.scope.names.lookup x = _
    rw [hs]; exact e
  · cases h1
theorem blt_of (F : XF C cls G X) {sc : Scope} {x : Str} (hs : X.env.scope = sc) (h : bltB G sc x = true) : Gl X x ∧ X.mg x = none ∧ (x == ("__debug__" : Str)) = false ∧ x ≠ "__name__" := by
  unfold bltB at h
  simp only [Bool.and_eq_true] at h
  obtain ⟨k1, k2, k3⟩ := gl_of hs h.1
  exact ⟨k1, F.bl x (List.contains_iff_mem.mp h.2), k2, k3⟩
theorem op_of {W : Nat → Hp → Prop} {o : Op} {op : Operator} (h : opB o op = true) : OpR X (binaryOp op) (r2 X.K W o.run) := by
  unfold opB at h
  split at h
  · exact r2_add
  · exact r2_sub
  · exact r2_mul
  · exact r2_fdiv
  · exact r2_mod
  · exact r2_pow
  · cases h
theorem cp_of (F : XF C cls G X) {W : Nat → Hp → Prop} {c : Cp} {op : CmpOp} (h : cpB c op = true) : OpR X (compareOp op) (r2 X.K W c.run) := by
  have u := F.units
  unfold cpB at h
  split at h
  · exact r2_eq (by omega)
  · exact r2_ne (by omega)
  · exact r2_lt
  · exact r2_le
  · exact r2_gt
  · exact r2_ge
  · exact r2_is
  · exact r2_isnot
  · exact r2_in u
  · exact r2_notin u
  · cases h
theorem bi_of (F : XF C cls G X) {W : Nat → Hp → Prop} {fz : Bool} {b : Bi} {x : Str} {sc : Scope} {a : Expr} {ma : M} {p pos : Pos} (hs : X.env.scope = sc) (hb : biB b x = true) (hx : bltB G sc x = true) (na : ns a = true) (ha : PE X a (tM X.K W fz ma)) :
    PE X (.Call (.Name x p) [a] [] pos) (tM X.K W fz (mBi b ma)) := by
  obtain ⟨h1, h2, h3, h4⟩ := blt_of F hs hx
  have u := F.units
  cases b with
  | len => obtain rfl := eq_of_beq hb; exact Pbi b_len h1 h2 (by decide +kernel) h4 h3 na ha
  | int_ => obtain rfl := eq_of_beq hb; exact PbiT b_int h1 h2 (by decide +kernel) h4 h3 na ha
  | abs => obtain rfl := eq_of_beq hb; exact Pbi b_abs h1 h2 (by decide +kernel) h4 h3 na ha
  | all => obtain rfl := eq_of_beq hb; exact Pbi (b_all F.calm) h1 h2 (by decide +kernel) h4 h3 na ha
  | sorted => obtain rfl := eq_of_beq hb; exact Pbi (b_sorted F.calm (by omega)) h1 h2 (by decide +kernel) h4 h3 na ha
  | tuple => obtain rfl := eq_of_beq hb; exact PbiT b_tuple h1 h2 (by decide +kernel) h4 h3 na ha
  | list => obtain rfl := eq_of_beq hb; exact PbiT b_list h1 h2 (by decide +kernel) h4 h3 na ha
  | dict => obtain rfl := eq_of_beq hb; exact PbiT (b_dict F.calm) h1 h2 (by decide +kernel) h4 h3 na ha
  | _ => exact Bool.noConfusion hb
theorem ty_of' (t : Ty) : bootBuiltins (tyS t) = some (.type (tyN t)) := by cases t <;> decide +kernel
/-! targets -/
mutual
theorem chkT_ok (F : XF C cls G X) {cl : Bool} (hcl : cl = true → ∀ x, X.env.scope.names.lookup x = some .cell → X.fn x = true) {sc : Scope} (hs : X.env.scope = sc) : ∀ {t : Ev.T} {e : Expr}, chkT G cl t sc e = true → PG X e (gE X.K t)
  | .nm i, e, h => by
    unfold chkT at h
    split at h
    · rename_i x p
      simp only [Bool.and_eq_true, beq_iff_eq] at h
      obtain ⟨h1, h2⟩ := h
      split at h2
      · rename_i e
        rw [← hs] at e
        exact Gname F.nd (by rw [F.hN]; exact h1) (.inl e) (.inr e)
      · rename_i e
        rw [← hs] at e
        exact Gname F.nd (by rw [F.hN]; exact h1) (.inr e) (.inl (hcl h2 x e))
      · cases h2
    · cases h
  | .tup ts, e, h => by
    unfold chkT at h
    split at h
    · rename_i es k p
      simp only [Bool.and_eq_true] at h
      obtain ⟨h1, h2⟩ := h
      obtain ⟨k1, k2⟩ := chkTs_ok F hcl hs h1 h2
      exact Gtup F.calm h2 k2 k1
    · cases h
theorem chkTs_ok (F : XF C cls G X) {cl : Bool} (hcl : cl = true → ∀ x, X.env.scope.names.lookup x = some .cell → X.fn x = true) {sc : Scope} (hs : X.env.scope = sc) : ∀ {ts : List Ev.T} {es : List Expr}, chkTs G cl ts sc es = true → es.all ns = true → PGs X es (gEs X.K ts) ∧ es.length = ts.length
  | [], es, h, n => by
    unfold chkTs at h
    cases es with
    | nil => exact ⟨Gnil, rfl⟩
    | cons e r => cases h
  | t :: ts, es, h, n => by
    unfold chkTs at h
    cases es with
    | nil => cases h
    | cons e r =>
      simp only [Bool.and_eq_true] at h
      rw [List.all_cons, Bool.and_eq_true] at n
      obtain ⟨k1, k2⟩ := chkTs_ok F hcl hs h.2 n.2
      exact ⟨Gcons n.1 (chkT_ok F hcl hs h.1) k1, by rw [List.length_cons, List.length_cons, k2]⟩
end
theorem blk_of (F : XF C cls G X) {sc scope : Scope} {own : List (Str × Nat)} (hs : X.env.scope = sc) (h : blkB G.N sc scope own = true) : BlkOk X.N X.env.scope scope own := by
  unfold blkB at h
  simp only [Bool.and_eq_true, List.all_eq_true, decide_eq_true_eq, Bool.or_eq_true, Bool.not_eq_true', beq_eq_false_iff_ne, List.any_eq_true, beq_iff_eq] at h
  obtain ⟨⟨⟨⟨h1, h2⟩, h3⟩, h4⟩, h5⟩ := h
  rw [hs, F.hN]
  refine ⟨?_, h2, h3, fun y hy e => ?_, fun y hy e => ?_⟩
  · split at h1
    · assumption
    · cases h1
  · rcases h4 y hy with z | z
    · exact (z e).elim
    · split at z
      · rename_i q; exact .inl q
      · rename_i q; exact .inr q
      · cases z
  · rcases h5 y hy with (z | ⟨p, hp, z⟩) | z
    · rcases e with e | e <;> rw [e] at z <;> simp at z
    · exact .inl (by rw [← z]; exact List.mem_map_of_mem hp)
    · refine .inr fun m => ?_
      rw [List.contains_iff_mem.mpr m] at z
      cases z
end
end EvS
end
section
set_option Elab.async false
set_option linter.all false
set_option maxRecDepth 100000
set_option maxHeartbeats 1000000
/-! EvAC: enumerate(tuple). -/
namespace EvS
open PySem PySem.Spec PyProof.Rows L2 Ev
/-- enumerate makes its iterator over a tuple's -/
theorem enumNewT (l : Addr) (items : Array Value) (n : Nat) (dct : Option Addr) (sl : Array (Option Value)) :
    PySem.Meets (PySem.Builtin.«enumerate.__new__» ⟨[.type "enumerate", .ref l], []⟩) (fun _ R s => s.heap.get? l = some { cls := .type "tuple", dict := dct, data := .seq items n, slots := sl } ∧
      R (.ok (.ret (.ref (s.heap.push { cls := .type "tuple_iterator", data := .fields #[.ref l, .int 0 0] }).objs.size)))
        { s with heap := (s.heap.push { cls := .type "tuple_iterator", data := .fields #[.ref l, .int 0 0] }).push { cls := .type "enumerate", data := .fields #[.none, .bool false, .ref s.heap.objs.size, rawInt 0, .none, .none] } }) :=
  .of_wp fun prog w A R s h => by
    obtain ⟨hp, g, d, tk, os⟩ := s; obtain ⟨hl, h⟩ := h
    have hsub := PySem.sub_enumerate
    have hL : Heap.IsTuple (Shared.heap ⟨hp, g, d, tk, os⟩) l items := ⟨_, hl, rfl, n, rfl⟩
    wp_walk using PySem.AutoSeq1.wpAny_loadPart' hl
    refine wpAny_stack_any fun st => wpAny_pure ?_
    split
    · rename_i c _ _ _ _ _
      cases (c == Value.type "enumerate")
      · wp_walk using PySem.AutoSeq1.wpAny_loadPart' hl, wpAny_pyIter_tuple hL
        exact ⟨_, rfl, h⟩
      · wp_walk using PySem.AutoSeq1.wpAny_loadPart' hl, wpAny_pyIter_tuple hL
        exact ⟨_, rfl, h⟩
    · wp_walk using PySem.AutoSeq1.wpAny_loadPart' hl, wpAny_pyIter_tuple hL
      exact ⟨_, rfl, h⟩
section
variable {prog : Program} {w : World} {A : Around} {E : Value → Shared → Prop} {s : Shared}
theorem enumT_call {l : Addr} {us : Array Value} {Q : Value → Shared → Prop} (hL : s.heap.IsTuple l us)
    (c : ∀ g, PySem.IsEnum g (s.heap.objs.size + 1) s.heap.objs.size 0 .none → g.IsTupleIter s.heap.objs.size l 0 → (∀ b o, s.heap.get? b = some o → g.get? b = some o) → Q (.ref (s.heap.objs.size + 1)) { s with heap := g }) :
    wpAny (model prog w) A (call (.type "enumerate") [.ref l]) Q E s := by
  obtain ⟨⟨k, dct, dt, sl⟩, hl, hk, n, hd⟩ := hL
  cases (show k = .type "tuple" from hk)
  cases (show dt = .seq us n from hd)
  have z1 : (s.heap.push { cls := .type "tuple_iterator", data := .fields #[.ref l, .int 0 0] }).objs.size = s.heap.objs.size + 1 := Heap.size_push ..
  have e1 : PySem.IsEnum ((s.heap.push { cls := .type "tuple_iterator", data := .fields #[.ref l, .int 0 0] }).push { cls := .type "enumerate", data := .fields #[.none, .bool false, .ref s.heap.objs.size, rawInt 0, .none, .none] }) (s.heap.objs.size + 1) s.heap.objs.size 0 .none := by
    have q := Heap.get?_push_size (s.heap.push { cls := .type "tuple_iterator", data := .fields #[.ref l, .int 0 0] }) (o := { cls := .type "enumerate", data := .fields #[.none, .bool false, .ref s.heap.objs.size, rawInt 0, .none, .none] }) rfl
    rwa [z1] at q
  refine callType_new PySem.F.called_enumerate (by decide) (PySem.F.typeCall_enumerate_1 _) (PySem.F.newCall_enumerate_1 _) (fun o => PySem.F.args_object_init_2 o _) PySem.F.entry_enumerate_new (enumNewT l us n dct sl) ⟨hl, ?_⟩
  show _ ∧ _
  rw [z1]
  exact ⟨⟨_, e1, rfl⟩, c _ e1 ⟨_, Heap.get?_push_of_some _ (Heap.get?_push_size _ rfl), rfl, rfl⟩ fun b o x => Heap.get?_push_of_some _ (Heap.get?_push_of_some _ x)⟩
end
/-- the tuple at a, each item in a new pair -/
def Itet (K : PySem.W.Frag) (a : Addr) : It :=
  ⟨fun i H => ∃ xs y, SqT K H a xs ∧ xs[i]? = some y, fun i H v H' => ∃ T y, v = .ref T ∧ H T = none ∧ H' = upd H T (.tup [.int (i : Nat), y]) ∧ ∀ xs, SqT K H a xs → xs[i]? = some y, fun i H => ∃ xs, SqT K H a xs ∧ xs.length = i⟩
theorem turn_enumT {P : Program} {w : World} {K : PySem.W.Frag} {elts : List Expr} {kk : Nat} {tpos : Pos} (a e it : Addr) :
    Turn P w K (.Tuple elts kk tpos) (Itet K a) [e, it] e (fun i h => (∃ old, PySem.IsEnum h e it ((i : Nat) : Int) old) ∧ h.IsTupleIter it a i ∧ e ≠ it ∧ e ≠ a ∧ a ≠ it) where
  mem := List.mem_cons_self
  obj := fun i h st b hb => by
    obtain ⟨⟨old, he⟩, ⟨o, ho, hc, hd⟩, _⟩ := st
    rcases List.mem_cons.mp hb with z | z
    · subst z; exact ⟨_, he, fun v q => nomatch q⟩
    · rw [List.mem_singleton.mp z]; exact ⟨o, ho, fun v q => by rw [hd] at q; cases q⟩
  keep := fun i h h' st k => ⟨⟨st.1.choose, k e (by simp) _ st.1.choose_spec⟩, st.2.1.at fun o q => k it (by simp) o q, st.2.2⟩
  item := by
    intro X hP hw hK hc i pins s σ H E I hf st hg
    subst hP hw hK
    obtain ⟨⟨old, he⟩, hit, ne1, ne2, ne3⟩ := st
    obtain ⟨xs, y, hq, hy⟩ := hg
    obtain ⟨its, rv, p, hz⟩ := I.tuple hq
    have pT : s.heap.IsTuple a its.toArray := p
    have hlt : i < its.toArray.size := by
      have h1 := (List.getElem?_eq_some_iff.mp hy).1
      have h2 := rv.length
      simp only [List.size_toArray]; omega
    have hE := Heap.lt_size he
    have hI : it < s.heap.objs.size := by obtain ⟨_, q, _⟩ := hit; exact Heap.lt_size q
    refine wpAny_pyNext_enum_itemD (PySem.Draws.tuple (A := X.A.in1) (I.ok.hd hc) it a ne3 its.toArray) he ⟨hit, pT⟩ hlt ne1 (by simp [ne1, ne2]) fun u g tk hu ho hs hT hsz hk => ?_
    refine ⟨_, rfl, wpAny_letOwnedTupleGo_enum (s := { s with heap := g, toks := tk + 1 }) ho fun g2 he2 sb => ?_⟩
    obtain ⟨u', hu', ru⟩ := rv.get hy
    have hu2 : u = u' := by
      have : its[i]? = some u := by simpa using hu
      rw [hu'] at this; exact (Option.some.inj this).symm
    subst hu2
    have hT2 : g2.get? s.heap.objs.size = some { cls := .type "tuple", data := .seq #[.int i tk, u] } := (sb.2 _ (Nat.ne_of_gt hE)).trans hT
    have new : ObjOk X.prog X.w (upd H s.heap.objs.size (.tup [.int (i : Nat), y])) g2 s.heap.objs.size (.tup [.int (i : Nat), y]) := ⟨by show 2 ≤ sizeLine; decide, [.int i tk, u], .cons ⟨_, rfl⟩ (.cons ru .nil), ⟨_, hT2, rfl, _, rfl⟩⟩
    have I1 : Inv X pins σ (upd H s.heap.objs.size (.tup [.int (i : Nat), y])) { s with heap := g2, toks := tk + 1 } :=
      I.turnedNew (ch := [e, it]) (fun b ob hb q => (sb.2 b (fun z => hb (by simp [z]))).trans (hk b ob (fun z => hb (by simp [z])) (fun z => hb (by simp [z])) q)) hf (Nat.le_refl _) new
    refine ⟨.ref s.heap.objs.size, _, I1, rfl, ⟨_, y, rfl, I.hok.fresh (Nat.le_refl _), rfl, fun ys hy2 => by rw [I.tuple_inj hy2 hq]; exact hy⟩, ⟨⟨u, ?_⟩, hs.1.at fun o q => (sb.2 it (Ne.symm ne1)).trans q, ne1, ne2, ne3⟩, fun b hb => ?_⟩
    · rw [show ((i + 1 : Nat) : Int) = (i : Int) + 1 by omega]; exact he2
    · have hb2 : b < s.heap.objs.size := by
        rcases List.mem_cons.mp hb with z | z
        · rw [z]; exact hE
        · rw [List.mem_singleton.mp z]; exact hI
      rw [upd_ne (Nat.ne_of_lt hb2)]
      exact (hf b hb).1
  done := by
    intro X hP hw hK hc i pins s σ H E I hf st hg
    subst hP hw hK
    obtain ⟨⟨old, he⟩, hit, ne1, ne2, ne3⟩ := st
    obtain ⟨xs, hq, hx⟩ := hg
    obtain ⟨its, rv, p, hz⟩ := I.tuple hq
    have pT : s.heap.IsTuple a its.toArray := p
    obtain ⟨f0, f1, f2, f3, f4, f5⟩ := hf it (by simp)
    have hsz : its.toArray.size = i := by
      rw [List.size_toArray, ← rv.length]; exact hx
    subst hsz
    exact wpAny_pyNext_enum_endD (PySem.Draws.tuple (A := X.A.in1) (I.ok.hd hc) it a ne3 its.toArray) he ⟨hit, pT⟩ fun g eb => ⟨rfl, I.turned (t' := s.toks) (fun b o hb q => eb b o hb q) f0 f1 f3 f4 f5⟩
  self := fun _ _ _ _ _ st h => wpAny_pyIter_enum st.1.choose_spec h
theorem walk_enumT {K : PySem.W.Frag} {a : Addr} {xs : List V} : Walk (Itet K a) xs.length (fun H => SqT K H a xs) (YPair (fun i => some (.int (i : Nat))) (fun i => xs[i]?)) := by
  refine ⟨fun i _ hi q => ⟨xs, xs[i], q, by simp [hi]⟩, fun _ q => ⟨xs, q, rfl⟩, fun i H v H' _ q y => ?_⟩
  obtain ⟨T, x, h1, h2, h3, h4⟩ := y
  exact ⟨T, .int (i : Nat), x, h1, h2, h3, rfl, h4 xs q⟩
def mEnumT (m : M) : MN := fun env h => (m env h).bind fun x h => (match x with
    | .tup xs => .ok (enumF 0 xs) h
    | _ => .bad)
theorem Sok.enumT {K : PySem.W.Frag} {N : Nz} {ρ : List Addr} {H : Hp} {vs : List EV} {ys : List V} {p : Addr} (hp : SqT K H p ys) (r : RVs K N ρ H vs ys) : Sok K N ρ H (enumF 0 vs) (Itet K p) := by
  refine ⟨_, _, vs.zip ys, by rw [enumF_len, r.length]; exact walk_enumT, fun ρ1 H1 e => e.tups hp, r.zip_mem, fun i ρ1 H1 h x H' v N1 rh hL y hv => ?_⟩
  obtain ⟨T, a, b, rfl, hT, rfl, ha, hb⟩ := y
  obtain ⟨w, hw, rfl⟩ := enumF_get vs 0 i v hv
  cases ha
  refine ⟨rh.newX hT, rh.new hT, RV.newT rh hT ⟨_, _, rfl, ?_, _, _, rfl, hL _ (zip_mem hw hb), rfl⟩⟩
  show V.int _ = V.int _
  simp
section
variable {X : Cx} {W : Nat → Hp → Prop} {fz : Bool} {a : Expr} {ma : M} {pos : Pos}
theorem IenumT {p tpos : Pos} {elts : List Expr} {kk : Nat} (hg : Gl X "enumerate") (hm : X.mg "enumerate" = none) (na : ns a = true) (ha : PE X a (tM X.K W fz ma)) : PI X (.Tuple elts kk tpos) (.Call (.Name "enumerate" p) [a] [] pos) (tI X.K W fz (mEnumT ma)) := by
  refine ⟨fun pins s σ H R I hh => ?_⟩
  obtain ⟨N, ρ, env, h, se, nf, q⟩ := hh
  have t : tCons (tM X.K W fz ma) tNil σ H fun vs H1 => ∃ d ys, vs = [V.ref d] ∧ SqT X.K H1 d ys ∧ R (Itet X.K d) H1 := tM_bind se nf q fun v h1 ρ1 H1 x e1 se1 nf1 rx q1 => by
    cases v with
    | tup vs =>
      obtain ⟨d, ys, rfl, hp, ra⟩ := rx
      exact ⟨d, ys, rfl, hp, og_here q1 se1.rh _ (.enumT hp ra)⟩
    | _ => exact (show False from q1).elim
  have hs : starEach [a] X.env = [(false, eval a X.env)] := star_cons na
  refine Call_ (ld_blt I hg hm boot_enumerate (PyProof.Rows.callWith_type1 (thn ((pa_cons ha pa_nil hs).run pos pins s σ H _ I t) fun us s1 ⟨vs, H1, I1, r1, q1⟩ => ?_) hs rfl))
  obtain ⟨d, ys, rfl, hq, hR⟩ := q1
  obtain ⟨u, rfl, ru⟩ := vals1 r1
  cases ru
  obtain ⟨its, rv, pT, hz⟩ := I1.tuple hq
  have hT : s1.heap.IsTuple d its.toArray := pT
  have hlt : d < s1.heap.objs.size := by obtain ⟨o, ho, _⟩ := hT; exact Heap.lt_size ho
  refine enumT_call hT fun g he hit hk => wpAny_pyIter_enum he ?_
  have I2 : Inv X pins σ H1 { s1 with heap := g } := I1.kept (t' := s1.toks) hk
  refine ⟨s1.heap.objs.size + 1, [s1.heap.objs.size + 1, s1.heap.objs.size], _, _, H1, rfl, I2, turn_enumT d (s1.heap.objs.size + 1) s1.heap.objs.size, ⟨⟨.none, he⟩, hit, Nat.succ_ne_self _, Nat.ne_of_gt (Nat.lt_succ_of_lt hlt), Nat.ne_of_lt hlt⟩, fun b hb => ?_, hR⟩
  have hle : s1.heap.objs.size ≤ b := by
    rcases List.mem_cons.mp hb with z | z
    · rw [z]; exact Nat.le_succ _
    · rw [List.mem_singleton.mp z]; exact Nat.le_refl _
  exact I1.fpOk hle (I1.hok.fresh hle)
end
end EvS
end
section
set_option Elab.async false
set_option linter.all false
set_option maxRecDepth 100000
set_option maxHeartbeats 1000000
/-! EvI: the induction. -/
namespace EvS
open PySem PySem.Spec PyProof.Rows L2 Ev
section
variable {X : Cx} {W : Nat → Hp → Prop} {fz : Bool}
theorem both {m : M} {e : Expr} (h : PE X e (tM X.K W fz m)) (he : ∀ whole, isTrue e X.env whole = (do let v ← whole; standAt e.pos; holding [v] (truthy v))) : PE X e (tM X.K W fz m) ∧ PT X e (tT X.K W fz m) := ⟨h, Tval h he⟩
theorem Tite {a b c : Expr} {ma mb mc : M} {pos : Pos} (hc : PT X c (tT X.K W fz mc)) (ha : PT X a (tT X.K W fz ma)) (hb : PT X b (tT X.K W fz mb)) : PT X (.IfExp c a b pos) (tT X.K W fz (mIte mc ma mb)) := by
  refine ⟨fun pins s σ H Q I q => ?_⟩
  obtain ⟨N, ρ, env, h, se, nf, q⟩ := q
  have t : tT X.K W fz mc σ H fun k H1 => if k = true then tT X.K W fz ma σ H1 Q else tT X.K W fz mb σ H1 Q :=
    tT_bind se nf q (fun v h hv => by cases v <;> first | rfl | exact absurd rfl (hv _)) fun k h1 ρ1 H1 e1 se1 nf1 q1 => by
      cases k with
      | true => exact iteT ⟨N, ρ1, env, h1, se1, nf1, q1⟩
      | false => exact iteF ⟨N, ρ1, env, h1, se1, nf1, q1⟩
  show wpAny _ _ (do if ← isTrue c X.env (eval c X.env) then isTrue a X.env (eval a X.env) else isTrue b X.env (eval b X.env)) _ _ _
  refine wpAny_bind (thn (hc.run pins s σ H _ I t) fun k s1 ⟨H1, I1, q1⟩ => ?_)
  cases k with
  | true => exact ha.run pins s1 σ H1 Q I1 q1
  | false => exact hb.run pins s1 σ H1 Q I1 q1
end
section
variable {X : Cx} {W : Nat → Hp → Prop} {fz : Bool} {a : Expr} {ma m : M} {pos : Pos}
theorem PWof {a : Expr} {r : List Expr} {t : TT} (h : PT X (.BoolOp .And (a :: r) pos) t) : PW X (.BoolOp .And (a :: r) pos) t := ⟨fun w pins s σ H Q I q => h.run pins s σ H Q I q⟩
theorem PWofOr {a : Expr} {r : List Expr} {t : TT} (h : PT X (.BoolOp .Or (a :: r) pos) t) : PW X (.BoolOp .Or (a :: r) pos) t := ⟨fun w pins s σ H Q I q => h.run pins s σ H Q I q⟩
theorem PTsNil : PTs X [] (tT X.K W fz fun _ h => .ok (.bl true) h) := ⟨fun pins s σ H Q I ⟨N, ρ, env, h, se, nf, q⟩ => pts_nil.run pins s σ H Q I (by
  obtain ⟨b, e, q1⟩ := og_here q se.rh
  cases e; exact q1)⟩
theorem TinG {x : Str} {p : Pos} {ks : List K0} {vs : List EV} (hg : Gl X x) (hdb : (x == ("__debug__" : Str)) = false) (g : GD X x ks vs) (ha : PE X a (tM X.K W fz ma)) : PT X (.Compare a [.In] [.Name x p] pos) (tT X.K W fz (mInG ks ma)) := by
  obtain ⟨d, es, n, hm, D, h1, h2⟩ := g.ex
  refine PTi (pt_cmpR (op_in_kd D) ha (pe_glob hg hm (v := .ref d) rfl hdb) rfl) fun σ H Q ⟨N, ρ, env, h, se, nf, q⟩ => tM_bind se nf (gT_gv q) fun v h3 ρ1 H1 x e1 se1 nf1 rx q1 => ?_
  cases v with
  | str s =>
    obtain ⟨rfl, t⟩ := rx
    obtain ⟨r, hr, hi⟩ := h1 s t
    exact ⟨toS s, r, rfl, rfl, hr, og_here q1 se1.rh _ (by rw [hi]; rfl)⟩
  | _ => exact (show False from q1).elim
end
section
variable {C : Cxt} {cls : Nat → Value} {G : Gs}
mutual
theorem chkE_ok : ∀ (m : E) {X : Cx} {W : Nat → Hp → Prop} {sc : Scope} {fz : Bool} {e : Expr}, XF C cls G X → Takes X (wx cls W) → X.env.scope = sc → chkE G m sc fz e = true → PE X e (tM X.K W fz (ev C m)) ∧ PT X e (tT X.K W fz (ev C m))
  | .var i, X, W, sc, fz, e, F, tk, hs, h => by
    unfold chkE at h; split at h
    · obtain ⟨h1, h2, h3, h4⟩ := nm_of F hs h
      exact both (Pvar h1 h2 h3 h4) fun _ => rfl
    · cases h
  | .non, X, W, sc, fz, e, F, tk, hs, h => by
    unfold chkE at h; split at h
    · exact both (Pconst (w := .non) pe_non fun _ _ _ => rfl) fun _ => rfl
    · cases h
  | .bl b, X, W, sc, fz, e, F, tk, hs, h => by
    unfold chkE at h; split at h
    · rw [beq_iff_eq] at h; subst h
      exact both (Pconst (w := .bl b) pe_bl fun _ _ _ => rfl) fun _ => rfl
    · cases h
  | .int i, X, W, sc, fz, e, F, tk, hs, h => by
    unfold chkE at h; split at h
    · rw [beq_iff_eq] at h; subst h
      exact both (Pconst (w := .int i) pe_int fun _ _ _ => rfl) fun _ => rfl
    · cases h
  | .str s, X, W, sc, fz, e, F, tk, hs, h => by
    unfold chkE at h; split at h
    · rw [Bool.and_eq_true, beq_iff_eq] at h
      obtain ⟨rfl, h2⟩ := h
      exact both (Pconst (w := .str s) pe_str fun _ _ _ => ⟨rfl, h2⟩) fun _ => rfl
    · cases h
  | .glob g, X, W, sc, fz, e, F, tk, hs, h => by
    unfold chkE at h; split at h
    · rw [Bool.and_eq_true, beq_iff_eq] at h
      obtain ⟨k1, k2, _⟩ := gl_of hs h.1
      obtain ⟨v, u, q1, q2, q3⟩ := F.gl _ _ h.2
      exact both (Pconst (w := C.glob g) (pe_glob k1 q1 q2 k2) q3) fun _ => rfl
    · cases h
  | .tup es, X, W, sc, fz, e, F, tk, hs, h => by
    unfold chkE at h; split at h
    · exact both (Ptup (chkEs_ok es F tk hs h).1) fun _ => rfl
    · cases h
  | .lst es, X, W, sc, fz, e, F, tk, hs, h => by
    unfold chkE at h; split at h
    · exact both (Plst (chkEs_ok es F tk hs h).1) fun _ => rfl
    · cases h
  | .dnew, X, W, sc, fz, e, F, tk, hs, h => by
    unfold chkE at h; split at h
    · exact both Pdnew fun _ => rfl
    · cases h
  | .op o a b, X, W, sc, fz, e, F, tk, hs, h => by
    unfold chkE at h; split at h
    · simp only [Bool.and_eq_true] at h
      exact both (Pbin (op_of h.1.1) (chkE_ok a F tk hs h.1.2).1 (chkE_ok b F tk hs h.2).1) fun _ => rfl
    · cases h
  | .neg a, X, W, sc, fz, e, F, tk, hs, h => by
    unfold chkE at h; split at h
    · exact both (Pneg (chkE_ok a F tk hs h).1) fun _ => rfl
    · cases h
  | .not_ a, X, W, sc, fz, e, F, tk, hs, h => by
    unfold chkE at h; split at h
    · have k := chkE_ok a F tk hs h
      exact ⟨Pnot k.1, Tnot k.2⟩
    · cases h
  | .and_ a b, X, W, sc, fz, e, F, tk, hs, h => by
    unfold chkE at h; split at h
    · rename_i x y r p
      simp only [Bool.and_eq_true] at h
      have k := chkE_ok a F tk hs h.1
      cases r with
      | nil =>
        have k2 := chkE_ok b F tk hs h.2
        exact ⟨Pand k.1 (pe_one k2.1), (Tand k.2 (pw_and1 k2.2)).pt⟩
      | cons z r =>
        have k2 := chkE_ok b F tk hs h.2
        exact ⟨Pand k.1 k2.1, (Tand k.2 (PWof k2.2)).pt⟩
    · cases h
  | .or_ a b, X, W, sc, fz, e, F, tk, hs, h => by
    unfold chkE at h; split at h
    · rename_i x y r p
      simp only [Bool.and_eq_true] at h
      have k := chkE_ok a F tk hs h.1
      cases r with
      | nil =>
        have k2 := chkE_ok b F tk hs h.2
        exact ⟨Por k.1 (pe_one k2.1), (Tor k.2 (pw_or1 k2.2)).pt⟩
      | cons z r =>
        have k2 := chkE_ok b F tk hs h.2
        exact ⟨Por k.1 k2.1, (Tor k.2 (PWofOr k2.2)).pt⟩
    · cases h
  | .cmp c a b, X, W, sc, fz, e, F, tk, hs, h => by
    unfold chkE at h; split at h
    · simp only [Bool.and_eq_true, Bool.not_eq_true'] at h
      have k1 := chkE_ok a F tk hs h.1.2
      have k2 := chkE_ok b F tk hs h.2
      exact ⟨Pcmp (cp_of F h.1.1.1) k1.1 k2.1 h.1.1.2, Tcmp (cp_of F h.1.1.1) k1.1 k2.1 h.1.1.2⟩
    · cases h
  | .chain a c b d f, X, W, sc, fz, e, F, tk, hs, h => by
    unfold chkE at h; split at h
    · simp only [Bool.and_eq_true, Bool.not_eq_true'] at h
      have k1 := chkE_ok a F tk hs h.1.1.2
      have k2 := chkE_ok b F tk hs h.1.2
      have k3 := chkE_ok f F tk hs h.2
      exact ⟨Pchain (cp_of F h.1.1.1.1.1) (cp_of F h.1.1.1.1.2) k1.1 k2.1 k3.1 h.1.1.1.2, Tchain (cp_of F h.1.1.1.1.1) (cp_of F h.1.1.1.1.2) k1.1 k2.1 k3.1 h.1.1.1.2⟩
    · cases h
  | .ite t a b, X, W, sc, fz, e, F, tk, hs, h => by
    unfold chkE at h; split at h
    · simp only [Bool.and_eq_true] at h
      have k1 := chkE_ok t F tk hs h.1.1
      have k2 := chkE_ok a F tk hs h.1.2
      have k3 := chkE_ok b F tk hs h.2
      exact ⟨Pite k1.2 k2.1 k3.1, Tite k1.2 k2.2 k3.2⟩
    · cases h
  | .idx a b, X, W, sc, fz, e, F, tk, hs, h => by
    unfold chkE at h; split at h
    · simp only [Bool.and_eq_true] at h
      have u := F.units
      exact both (Pidx (by omega) (chkE_ok a F tk hs h.1.2).1 (chkE_ok b F tk hs h.2).1 (plain_of h.1.1)) fun _ => rfl
    · cases h
  | .cut a lo hi, X, W, sc, fz, e, F, tk, hs, h => by
    unfold chkE at h; split at h
    · simp only [Bool.and_eq_true] at h
      exact both (Pcut (chkE_ok a F tk hs h.1.1).1 (chkB_ok lo F tk hs h.1.2) (chkB_ok hi F tk hs h.2)) fun _ => rfl
    · cases h
  | .call f es, X, W, sc, fz, e, F, tk, hs, h => by
    unfold chkE at h; split at h
    · rename_i x p a r p2
      simp only [Bool.and_eq_true] at h
      obtain ⟨⟨⟨⟨hz, hg⟩, hf⟩, hn⟩, he⟩ := h
      obtain ⟨k1, k2, _⟩ := gl_of hs hg
      split at hf
      · rename_i g np fr e1
        simp only [Bool.and_eq_true, beq_iff_eq, decide_eq_true_eq] at hf
        obtain ⟨rfl, hl⟩ := hf
        obtain ⟨k, ad, fd, ps, q1, q2, q3, q4, q5⟩ := F.fn _ _ _ _ e1
        obtain ⟨r1, r2⟩ := chkEs_ok es F tk hs he
        exact both (Pcall q1 q2 k1 q3 q4 q5 tk k2 hz hn hl (tMs_len (by rw [← hl]; exact r2)) r1) fun _ => rfl
      · cases hf
    · cases h
  | .bi b a, X, W, sc, fz, e, F, tk, hs, h => by
    unfold chkE at h; split at h
    · split at h
      · rename_i t x p y z p2 p3
        simp only [Bool.and_eq_true, beq_iff_eq] at h
        obtain ⟨⟨⟨⟨⟨rfl, hx⟩, rfl⟩, hz⟩, hy⟩, he⟩ := h
        obtain ⟨h1, h2, h3, h4⟩ := blt_of F hs hx
        obtain ⟨k1, k2, k3, k4⟩ := blt_of F hs hz
        exact both (Pisi h1 h2 (by decide +kernel) h4 h3 hy k1 k2 (ty_of' _) k4 k3 (chkE_ok a F tk hs he).1) fun _ => rfl
      · cases h
    · split at h
      · simp only [Bool.and_eq_true, beq_iff_eq] at h
        obtain ⟨⟨⟨⟨⟨⟨hz, rfl⟩, hx⟩, rfl⟩, hb⟩, hl⟩, he⟩ := h
        obtain ⟨h1, h2, h3, h4⟩ := blt_of F hs hx
        exact both (Pitems F.calm hz h1 h2 hb (by rw [hl]; exact beq_self_eq_true _) (chkE_ok a F tk hs he).1) fun _ => rfl
      · cases h
    · split at h
      · simp only [Bool.and_eq_true, beq_iff_eq] at h
        obtain ⟨⟨⟨⟨hr, rfl⟩, hx⟩, hn⟩, he⟩ := h
        obtain ⟨h1, h2, h3, h4⟩ := blt_of F hs hx
        have u := F.units
        exact both (Pbi (b_repr (F.rp hr) (by omega)) h1 h2 (by decide +kernel) h4 h3 hn (chkE_ok a F tk hs he).1) fun _ => rfl
      · cases h
    · split at h
      · simp only [Bool.and_eq_true] at h
        exact both (bi_of F hs h.1.1.1 h.1.1.2 h.1.2 (chkE_ok a F tk hs h.2).1) fun _ => rfl
      · cases h
  | .get d k, X, W, sc, fz, e, F, tk, hs, h => by
    unfold chkE at h; split at h
    · simp only [Bool.and_eq_true, beq_iff_eq] at h
      obtain ⟨⟨⟨⟨⟨rfl, hb⟩, hn⟩, hl⟩, h1⟩, h2⟩ := h
      have u := F.units
      exact both (Pget (by omega) hb hn (by rw [hl]; exact beq_self_eq_true _) (chkE_ok d F tk hs h1).1 (chkE_ok k F tk hs h2).1) fun _ => rfl
    · cases h
  | .split a c, X, W, sc, fz, e, F, tk, hs, h => by
    unfold chkE at h; split at h
    · simp only [Bool.and_eq_true, beq_iff_eq] at h
      obtain ⟨⟨⟨⟨rfl, rfl⟩, hb⟩, hl⟩, h1⟩ := h
      exact both (Psplit hb (by rw [hl]; exact beq_self_eq_true _) (chkE_ok a F tk hs h1).1) fun _ => rfl
    · cases h
  | .index l a, X, W, sc, fz, e, F, tk, hs, h => by
    unfold chkE at h; split at h
    · simp only [Bool.and_eq_true, beq_iff_eq] at h
      obtain ⟨⟨⟨⟨⟨rfl, hb⟩, hn⟩, hl⟩, h1⟩, h2⟩ := h
      exact both (Pindex hb hn (by rw [hl]; exact beq_self_eq_true _) (chkE_ok l F tk hs h1).1 (chkE_ok a F tk hs h2).1) fun _ => rfl
    · cases h
  | .comp t own s test elt, X, W, sc, fz, e, F, tk, hs, h => by
    unfold chkE at h; split at h
    · rename_i x tg iter ifs scope p
      simp only [Bool.and_eq_true, decide_eq_true_eq] at h
      obtain ⟨⟨⟨⟨⟨⟨⟨ho, hb⟩, hsl⟩, ht⟩, hns⟩, hsr⟩, hif⟩, hel⟩ := h
      have B := blk_of F hs hb
      obtain ⟨fz', hfz⟩ : ∃ f, f = (fz && keysFree s) := ⟨_, rfl⟩
      rw [← hfz] at hif hel
      have hsl' : ∀ i ∈ slots t, i ∈ (ownNm G.N own).map (·.2) := fun i hi => by
        rw [ho]
        exact List.contains_iff_mem.mp (List.all_eq_true.mp hsl i hi)
      have hg : ∀ (s : Shared) (H : Hp) (C : Addr) (cl : List (Str × Addr)) (fp : List Addr), PG (X.blk s H scope (compEnvC scope cl C X.env) fp) tg (gE X.K t) := fun s H D cl fp =>
        chkT_ok (X := X.blk s H scope (compEnvC scope cl D X.env) fp) F.blk (cl := false) (fun z => by cases z) (sc := relS scope sc) (by rw [← hs]; rfl) ht
      have htest : ∀ (s : Shared) (H : Hp) (C' : Addr) (cl : List (Str × Addr)) (fp : List Addr), PTs (X.blk s H scope (compEnvC scope cl C' X.env) fp) ifs (tT X.K (fun _ _ => False) fz' (ev C test)) := fun s H D cl fp => by
        split at hif
        · split at hif
          · exact PTsNil
          · cases hif
        · exact pts_one (chkE_ok test (X := X.blk s H scope (compEnvC scope cl D X.env) fp) F.blk takes0 (by rw [← hs]; rfl) hif).2
        · cases hif
      have helt : ∀ (s : Shared) (H : Hp) (C' : Addr) (cl : List (Str × Addr)) (fp : List Addr), PE (X.blk s H scope (compEnvC scope cl C' X.env) fp) x (tM X.K (fun _ _ => False) fz' (ev C elt)) := fun s H D cl fp =>
        (chkE_ok elt (X := X.blk s H scope (compEnvC scope cl D X.env) fp) F.blk takes0 (by rw [← hs]; rfl) hel).1
      cases s with
      | keys i =>
        have e1 : fz' = false := by rw [hfz]; simp [keysFree]
        subst e1
        unfold chkS at hsr
        split at hsr
        · rename_i y p2
          simp only [Bool.and_eq_true] at hsr
          obtain ⟨k1, k2, k3, k4⟩ := nm_of F hs hsr.2
          have k := PcompK (W := W) (i := i) (pos := p) (p2 := p2) F.calm F.nd hsr.1 k1 k2 k3 k4 B hsl' hg htest helt
          rw [ho] at k
          exact both k fun _ => rfl
        · cases hsr
      | keysO i =>
        have e1 : fz' = false := by rw [hfz]; simp [keysFree]
        subst e1
        unfold chkS at hsr
        split at hsr
        · rename_i y p2
          simp only [Bool.and_eq_true] at hsr
          obtain ⟨k1, k2, k3, k4⟩ := nm_of F hs hsr.2
          have k := PcompO (W := W) (i := i) (pos := p) (p2 := p2) F.calm F.nd hsr.1 k1 k2 k3 k4 B hsl' hg htest helt
          rw [ho] at k
          exact both k fun _ => rfl
        · cases hsr
      | of m =>
        have e1 : fz' = fz := by rw [hfz]; simp [keysFree]
        subst e1
        have k := Pcomp (pos := p) F.calm F.nd (chkS_ok (.of m) (tg := tg) F tk hs hsr rfl) B hsl' hg htest helt hns
        rw [ho] at k
        exact both k fun _ => rfl
      | range1 m =>
        have e1 : fz' = fz := by rw [hfz]; simp [keysFree]
        subst e1
        have k := Pcomp (pos := p) F.calm F.nd (chkS_ok (.range1 m) (tg := tg) F tk hs hsr rfl) B hsl' hg htest helt hns
        rw [ho] at k
        exact both k fun _ => rfl
      | range2 m n =>
        have e1 : fz' = fz := by rw [hfz]; simp [keysFree]
        subst e1
        have k := Pcomp (pos := p) F.calm F.nd (chkS_ok (.range2 m n) (tg := tg) F tk hs hsr rfl) B hsl' hg htest helt hns
        rw [ho] at k
        exact both k fun _ => rfl
      | enum m =>
        have e1 : fz' = fz := by rw [hfz]; simp [keysFree]
        subst e1
        have k := Pcomp (pos := p) F.calm F.nd (chkS_ok (.enum m) (tg := tg) F tk hs hsr rfl) B hsl' hg htest helt hns
        rw [ho] at k
        exact both k fun _ => rfl
      | enumT m =>
        have e1 : fz' = fz := by rw [hfz]; simp [keysFree]
        subst e1
        have k := Pcomp (pos := p) F.calm F.nd (chkS_ok (.enumT m) (tg := tg) F tk hs hsr rfl) B hsl' hg htest helt hns
        rw [ho] at k
        exact both k fun _ => rfl
      | zip m n =>
        have e1 : fz' = fz := by rw [hfz]; simp [keysFree]
        subst e1
        have k := Pcomp (pos := p) F.calm F.nd (chkS_ok (.zip m n) (tg := tg) F tk hs hsr rfl) B hsl' hg htest helt hns
        rw [ho] at k
        exact both k fun _ => rfl
    · cases h
  | .lenO i, X, W, sc, fz, e, F, tk, hs, h => by
    unfold chkE at h; split at h
    · simp only [Bool.and_eq_true, beq_iff_eq] at h
      obtain ⟨⟨rfl, hx⟩, hn⟩ := h
      obtain ⟨h1, h2, h3, h4⟩ := blt_of F hs hx
      obtain ⟨k1, k2, k3, k4⟩ := nm_of F hs hn
      exact both (PlenO k1 k2 k3 k4 h1 h2 (by decide +kernel) h4 h3) fun _ => rfl
    · cases h
  | .idxO i a, X, W, sc, fz, e, F, tk, hs, h => by
    unfold chkE at h; split at h
    · simp only [Bool.and_eq_true] at h
      obtain ⟨k1, k2, k3, k4⟩ := nm_of F hs h.1.1
      exact both (PidxO k1 k2 k3 k4 (plain_of h.1.2) (chkE_ok a F tk hs h.2).1) fun _ => rfl
    · cases h
  | .inO a i neg, X, W, sc, fz, e, F, tk, hs, h => by
    unfold chkE at h; split at h
    · simp only [Bool.and_eq_true] at h
      obtain ⟨⟨h1, hn⟩, ha⟩ := h
      obtain ⟨k1, k2, k3, k4⟩ := nm_of F hs hn
      have u := F.units
      have k := (chkE_ok a F tk hs ha).1
      split at h1
      · exact ⟨PinO (by omega) k1 k2 k3 k4 k, TinO (by omega) k1 k2 k3 k4 k⟩
      · exact ⟨PnotinO (by omega) k1 k2 k3 k4 k, TnotinO (by omega) k1 k2 k3 k4 k⟩
      · cases h1
    · cases h
  | .inG a g, X, W, sc, fz, e, F, tk, hs, h => by
    unfold chkE at h; split at h
    · simp only [Bool.and_eq_true, beq_iff_eq] at h
      obtain ⟨k1, k2, _⟩ := gl_of hs h.1.1
      have k := (chkE_ok a F tk hs h.2).1
      exact ⟨PinG k1 k2 (F.dc _ _ h.1.2) k, TinG k1 k2 (F.dc _ _ h.1.2) k⟩
    · cases h
  | .idxG g a, X, W, sc, fz, e, F, tk, hs, h => by
    unfold chkE at h; split at h
    · simp only [Bool.and_eq_true, beq_iff_eq] at h
      obtain ⟨k1, k2, _⟩ := gl_of hs h.1.1.1
      exact both (PidxG k1 k2 (F.dc _ _ h.1.1.2) (plain_of h.1.2) (chkE_ok a F tk hs h.2).1) fun _ => rfl
    · cases h
theorem chkEs_ok : ∀ (ms : Es) {X : Cx} {W : Nat → Hp → Prop} {sc : Scope} {fz : Bool} {es : List Expr}, XF C cls G X → Takes X (wx cls W) → X.env.scope = sc → chkEs G ms sc fz es = true → PA X es (tMs X.K W fz (evs C ms)) ∧ (∀ env h vs h', evs C ms env h = .ok vs h' → vs.length = es.length)
  | .nil, X, W, sc, fz, es, F, tk, hs, h => by
    unfold chkEs at h
    cases es with
    | nil => exact ⟨Anil, fun env h vs h' e => by cases e; rfl⟩
    | cons e r => cases h
  | .cons m ms, X, W, sc, fz, es, F, tk, hs, h => by
    unfold chkEs at h
    split at h
    · simp only [Bool.and_eq_true] at h
      obtain ⟨k1, k2⟩ := chkEs_ok ms F tk hs h.2
      exact ⟨Acons h.1.1 (chkE_ok m F tk hs h.1.2).1 k1, len_cons k2⟩
    · cases h
theorem chkB_ok : ∀ (b : Bd) {X : Cx} {W : Nat → Hp → Prop} {sc : Scope} {fz : Bool} {o : Option Expr}, XF C cls G X → Takes X (wx cls W) → X.env.scope = sc → chkB G b sc fz o = true → PO X o (tO X.K W fz (evb C b))
  | .no, X, W, sc, fz, o, F, tk, hs, h => by
    unfold chkB at h
    cases o with
    | none => exact Ono
    | some e => cases h
  | .so m, X, W, sc, fz, o, F, tk, hs, h => by
    unfold chkB at h
    split at h
    · exact Oso (chkE_ok m F tk hs h).1
    · cases h
theorem chkS_ok : ∀ (s : Sr) {X : Cx} {W : Nat → Hp → Prop} {sc : Scope} {fz : Bool} {tg e : Expr}, XF C cls G X → Takes X (wx cls W) → X.env.scope = sc → chkS G s sc fz tg e = true → keysFree s = true → PI X tg e (tI X.K W fz (src C s))
  | .of m, X, W, sc, fz, tg, e, F, tk, hs, h, _ => by
    unfold chkS at h
    exact Iof (chkE_ok m F tk hs h).1
  | .range1 m, X, W, sc, fz, tg, e, F, tk, hs, h, _ => by
    unfold chkS at h
    split at h
    · simp only [Bool.and_eq_true, beq_iff_eq] at h
      obtain ⟨⟨⟨rfl, hx⟩, hn⟩, he⟩ := h
      obtain ⟨h1, h2, _⟩ := blt_of F hs hx
      exact Irange1 h1 h2 hn (chkE_ok m F tk hs he).1
    · cases h
  | .range2 a b, X, W, sc, fz, tg, e, F, tk, hs, h, _ => by
    unfold chkS at h
    split at h
    · simp only [Bool.and_eq_true, beq_iff_eq] at h
      obtain ⟨⟨⟨⟨⟨rfl, hx⟩, hn⟩, hn'⟩, he⟩, he'⟩ := h
      obtain ⟨h1, h2, _⟩ := blt_of F hs hx
      exact Irange2 h1 h2 hn hn' (chkE_ok a F tk hs he).1 (chkE_ok b F tk hs he').1
    · cases h
  | .enum m, X, W, sc, fz, tg, e, F, tk, hs, h, _ => by
    unfold chkS at h
    split at h
    · simp only [Bool.and_eq_true, beq_iff_eq] at h
      obtain ⟨⟨⟨⟨rfl, hx⟩, ht⟩, hn⟩, he⟩ := h
      obtain ⟨h1, h2, _⟩ := blt_of F hs hx
      cases tg with
      | Tuple elts kk tp => exact Ienum h1 h2 hn (chkE_ok m F tk hs he).1
      | _ => cases ht
    · cases h
  | .enumT m, X, W, sc, fz, tg, e, F, tk, hs, h, _ => by
    unfold chkS at h
    split at h
    · simp only [Bool.and_eq_true, beq_iff_eq] at h
      obtain ⟨⟨⟨⟨rfl, hx⟩, ht⟩, hn⟩, he⟩ := h
      obtain ⟨h1, h2, _⟩ := blt_of F hs hx
      cases tg with
      | Tuple elts kk tp => exact IenumT h1 h2 hn (chkE_ok m F tk hs he).1
      | _ => cases ht
    · cases h
  | .zip a b, X, W, sc, fz, tg, e, F, tk, hs, h, _ => by
    unfold chkS at h
    split at h
    · simp only [Bool.and_eq_true, beq_iff_eq] at h
      obtain ⟨⟨⟨⟨⟨⟨rfl, hx⟩, ht⟩, hn⟩, hn'⟩, he⟩, he'⟩ := h
      obtain ⟨h1, h2, _⟩ := blt_of F hs hx
      cases tg with
      | Tuple elts kk tp => exact Izip h1 h2 hn hn' (chkE_ok a F tk hs he).1 (chkE_ok b F tk hs he').1
      | _ => cases ht
    · cases h
  | .keys i, X, W, sc, fz, tg, e, F, tk, hs, h, hk => by cases hk
  | .keysO i, X, W, sc, fz, tg, e, F, tk, hs, h, hk => by cases hk
end
end
end EvS
end
section
set_option Elab.async false
set_option linter.all false
set_option maxRecDepth 100000
set_option maxHeartbeats 1000000
/-! EvO: which statement of the program is which own statement. -/
namespace EvS
open PySem PySem.Spec PyProof.Rows L2 Ev
def notComp : Expr → Bool
  | .ListComp _ _ _ _ => false
  | .SetComp _ _ _ _ => false
  | .DictComp _ _ _ _ _ => false
  | _ => true
theorem sw_of {v : Expr} {t : Option Expr} {l : Nat} {env : PySem.Env} (h : notComp v = true) : swapsWith v t l env = pure false := by
  cases v <;> first | rfl | exact Bool.noConfusion h
theorem sw_not {v : Expr} {t : Expr} {l : Nat} {env : PySem.Env} (h : ∀ x p, t ≠ .Name x p) : swapsWith v (some t) l env = pure false := by
  cases t <;> first | exact (h _ _ rfl).elim | (cases v <;> rfl)
def notTup : Expr → Bool
  | .Tuple _ _ _ => false
  | _ => true
theorem st_val {v t : Expr} {env : PySem.Env} (h : notTup v = true) : swappedStores [t] v env = pure none := by
  cases v <;> first | exact Bool.noConfusion h | (cases t <;> rfl)
theorem st_tgt {v t : Expr} {env : PySem.Env} (h : (match t with | .Tuple _ _ _ => false | .List _ _ => false | _ => true) = true) : swappedStores [t] v env = pure none := by
  cases t <;> first | exact Bool.noConfusion h | (cases v <;> rfl)
theorem ae_one {t : Expr} {env : PySem.Env} (h : ns t = true) : (assignEach [t] env).map (·.2) = [assign t env] := by
  rw [as_cons h]; rfl
def parB (sc : Scope) (x y : Str) (px py : Pos) (a b : Expr) : Bool :=
  locB sc x && locB sc y && (py.line == px.line) && !(x == y) && ns a && ns b && !([a, b].all (foldedForSure 8)) && !([a, b].all (constantsAlone 8))
theorem par_of {sc : Scope} {x y : Str} {px py pt pt2 : Pos} {kt k2} {a b : Expr} {env : PySem.Env} (hs : env.scope = sc) (hk : sc.kind = .function) (h : parB sc x y px py a b = true) :
    swappedStores [.Tuple [.Name x px, .Name y py] kt pt] (.Tuple [a, b] k2 pt2) env = pure (some [x, y]) := by
  unfold parB at h
  simp only [Bool.and_eq_true, Bool.not_eq_true', beq_iff_eq] at h
  obtain ⟨⟨⟨⟨⟨⟨⟨h1, h2⟩, h3⟩, h4⟩, h5⟩, h6⟩, h7⟩, h8⟩ := h
  have e1 : env.kindOf x = some .local := by
    show env.scope.names.lookup x = _
    rw [hs]
    unfold locB at h1
    split at h1
    · assumption
    · cases h1
  have e2 : env.kindOf y = some .local := by
    show env.scope.names.lookup y = _
    rw [hs]
    unfold locB at h2
    split at h2
    · assumption
    · cases h2
  have e3 : env.blockKind = .function := by unfold Env.blockKind; rw [hs, hk]; rfl
  have e4 : ([a, b].any fun | .Starred .. => true | _ => false) = false := by
    cases a <;> cases b <;> first | rfl | exact Bool.noConfusion h5 | exact Bool.noConfusion h6
  have h4' : ¬ y = x := fun z => by rw [z] at h4; simp at h4
  unfold swappedStores
  simp only [e3, e4, h7, h8]
  simp [e1, e2, h3, Expr.pos, List.eraseDups, List.eraseDupsBy, List.eraseDupsBy.loop, h4']
  have h4'' : (y == x) = false := by simp [h4']
  rw [h4'']
  rw [if_neg]
  · rfl
  · intro z
    rcases z with z | z
    · cases a <;> first | exact Bool.noConfusion z | exact Bool.noConfusion h5
    · cases b <;> first | exact Bool.noConfusion z | exact Bool.noConfusion h6
theorem par_none {sc : Scope} {x y : Str} {px py pt pt2 : Pos} {kt k2} {a b : Expr} {env : PySem.Env} (hs : env.scope = sc) (hk : sc.kind = .function) (na : ns a = true) (nb : ns b = true) (h : (locB sc x && locB sc y) = false) :
    swappedStores [.Tuple [.Name x px, .Name y py] kt pt] (.Tuple [a, b] k2 pt2) env = pure none := by
  have lo : ∀ z, locB sc z = false → (env.kindOf z == some .local) = false := fun z hz => by
    have e : env.kindOf z = sc.names.lookup z := by show env.scope.names.lookup z = _; rw [hs]
    rw [e]
    unfold locB at hz
    split at hz
    · cases hz
    · rename_i hn
      rw [beq_eq_false_iff_ne]
      exact hn
  have e3 : env.blockKind = .function := by unfold Env.blockKind; rw [hs, hk]; rfl
  have e4 : ([a, b].any fun | .Starred .. => true | _ => false) = false := by
    cases a <;> cases b <;> first | rfl | exact Bool.noConfusion na | exact Bool.noConfusion nb
  unfold swappedStores
  simp only [e3, e4]
  rw [Bool.and_eq_false_iff] at h
  rcases h with h | h
  · have q : ¬ env.kindOf x = some .local := by simpa using lo x h
    simp [Expr.pos]
    intro _ _ h3
    exfalso
    revert h3
    simp only [List.filterMap_cons, List.filterMap_nil, q, false_and, if_false]
    by_cases hy : env.kindOf y = some .local ∧ py.line = px.line
    · simp [hy]
    · simp only [if_neg hy]; simp
  · have q : ¬ env.kindOf y = some .local := by simpa using lo y h
    simp [Expr.pos]
    intro _ _ h3
    exfalso
    revert h3
    simp only [List.filterMap_cons, List.filterMap_nil, q, false_and, if_false]
    by_cases hy : env.kindOf x = some .local <;> simp [hy]
/-- e is m, and makes a new list or dict -/
def chkX (G : Gs) : E → Scope → Expr → Bool
  | .lst es, sc, e => (match e with
    | .List xs _ => chkEs G es sc true xs
    | _ => false)
  | .dnew, sc, e => (match e with
    | .Dict [] [] _ => true
    | _ => false)
  | .op .add a b, sc, e => (match e with
    | .BinOp x .Add y _ => chkE G a sc true x && chkE G b sc true y
    | _ => false)
  | .bi .dict a, sc, e => (match e with
    | .Call (.Name x _) [y] [] _ => (x == ("dict" : Str)) && bltB G sc x && ns y && chkE G a sc true y
    | _ => false)
  | .call f es, sc, e => (match e with
    | .Call (.Name x _) (a :: r) [] _ => glB sc x && (match G.fns.lookup x with
      | some (g, np, fr) => g == f && fr && decide ((a :: r).length = np)
      | none => false) && nsAll (a :: r) && chkEs G es sc true (a :: r)
    | _ => false)
  | _, _, _ => false
def chkO (G : Gs) (o : Bool) (m : E) (sc : Scope) (e : Expr) : Bool := match o with
  | true => chkX G m sc e
  | false => chkE G m sc true e
def slB (G : Gs) (cl : Bool) (sc : Scope) (i : Nat) (x : Str) : Bool := (G.N[i]? == some x) && (match sc.names.lookup x with
  | some .local => true
  | some .cell => cl
  | _ => false)
mutual
def chkSt (G : Gs) (cl fr : Bool) : Ev.St → Scope → Stmt → Bool
  | .asg t m, sc, st => (match st with
    | .Assign [tg] v pos => (match notComp v with
      | true => (notTup v || (match tg with
        | .Tuple _ _ _ => false
        | .List _ _ => false
        | _ => true)) && ns tg && chkT G cl t sc tg && chkE G m sc true v
      | false => (match t, tg, m, v with
        | .nm i, .Name y py, .comp t own s test elt, .ListComp x [⟨ctg, iter, ifs, 0⟩] scope p => (G.N[i]? == some y) && locB sc y && (py.line == p.line) && !(scope.names.any fun (n, k) => n == y && (k == .local || k == .cell)) && keysFree s &&
            chkE G (.comp t own s test elt) sc true (.ListComp x [⟨ctg, iter, ifs, 0⟩] scope p)
        | _, _, _, _ => false))
    | _ => false)
  | .own i m, sc, st => (match st with
    | .Assign [.Name x p] v pos => notComp v && slB G cl sc i x && chkX G m sc v
    | _ => false)
  | .par2 i j o1 o2 a b, sc, st => (match st with
    | .Assign [.Tuple [.Name x px, .Name y py] _ _] (.Tuple [u, v] _ _) pos => (parB sc x y px py u v || (!(locB sc x && locB sc y) && slB G cl sc i x && slB G cl sc j y && ns u && ns v)) && (G.N[i]? == some x) && (G.N[j]? == some y) && !(i == j) && chkO G o1 a sc u && chkO G o2 b sc v
    | _ => false)
  | .setR o k v, sc, st => (match st with
    | .Assign [.Subscript a b p] c pos => notSlice b && chkE G o sc true a && chkE G k sc true b && chkE G v sc true c
    | _ => false)
  | .setO i k v, sc, st => (match st with
    | .Assign [.Subscript (.Name x _) b p] c pos => nmOk G sc i x && chkE G k sc true b && chkE G v sc true c
    | _ => false)
  | .app i m, sc, st => (match st with
    | .Expr (.Call (.Attribute (.Name x _) n apos) [b] [] cpos) pos => (n == ("append" : Str)) && nmOk G sc i x && ns b && (apos.endLine == cpos.line) && chkE G m sc true b
    | _ => false)
  | .upd i m, sc, st => (match st with
    | .Expr (.Call (.Attribute (.Name x _) n apos) [b] [] cpos) pos => (n == ("update" : Str)) && nmOk G sc i x && ns b && (apos.endLine == cpos.line) && chkE G m sc true b
    | _ => false)
  | .ex m, sc, st => (match st with
    | .Expr v pos => notComp v && chkE G m sc true v
    | _ => false)
  | .ret m, sc, st => (match st with
    | .Return (some v) pos => !fr && chkE G m sc true v
    | _ => false)
  | .retOwn i, sc, st => (match st with
    | .Return (some (.Name x _)) pos => nmOk G sc i x
    | _ => false)
  | .ite t a b, sc, st => (match st with
    | .If c p q pos => chkE G t sc true c && chkSts G cl fr a sc p && chkSts G cl fr b sc q
    | _ => false)
  | .for_ t s b, sc, st => (match st with
    | .For tg iter body [] pos => chkT G cl t sc tg && keysFree s && notSet iter && chkS G s sc true tg iter && chkSts G cl fr b sc body
    | _ => false)
  | .raise_ c, sc, st => (match st with
    | .Raise (some (.Call (.Name x _) [.Constant (.str _) _ _] [] _)) none pos => glB sc x && (G.exs.lookup x == some c)
    | _ => false)
  | .pass_, sc, st => (match st with
    | .Pass pos => true
    | _ => false)
  | .spec n, sc, st => !fr && G.spB n st
  | .freeze _, _, _ => false
  | .share _, _, _ => false
def chkSts (G : Gs) (cl fr : Bool) : Sts → Scope → List Stmt → Bool
  | .nil, sc, sts => sts.isEmpty
  | .cons s r, sc, sts => (match s with
    | .freeze _ => chkSts G cl fr r sc sts
    | .share _ => chkSts G cl fr r sc sts
    | s => (match sts with
      | st :: rest => chkSt G cl fr s sc st && chkSts G cl fr r sc rest
      | [] => false))
end
end EvS
end
section
set_option Elab.async false
set_option linter.all false
set_option maxRecDepth 100000
set_option maxHeartbeats 1000000
/-! EvW: statements that are found so are read so. -/
namespace EvS
open PySem PySem.Spec PyProof.Rows L2 Ev
structure XS (C : Cxt) (cls : Nat → Value) (G : Gs) (TP : List Addr) (X : Cx) (W : Nat → Hp → Prop) : Prop extends XF C cls G X where
  tk : Takes X (wx cls W)
  ps : PassesOwn (model X.prog X.w) X.A X.env X.xe
  kind : X.env.scope.kind = .function
  fnc : ∀ x, X.env.scope.names.lookup x = some .cell → X.fn x = true
  ex : ∀ x k, G.exs.lookup x = some k → ∃ (Cc : Addr) (bmB : List Value) (B newId initId : String), ExcBaseFacts B newId initId bmB ∧ PySem.W.excIn X.K Cc bmB newId = true ∧ X.mg x = some (.ref Cc) ∧ PySem.W.keepIn X.K (.ref Cc) = true ∧ Raises X (.ref Cc) ∧ cls k = .ref Cc
  sp : ∀ n st, G.spB n st = true → PS X st (tS X.K TP W false (C.spec n))
section
variable {C : Cxt} {cls : Nat → Value} {G : Gs} {X : Cx} {TP : List Addr} {W : Nat → Hp → Prop}
theorem chkX_ok : ∀ (m : E) {sc : Scope} {e : Expr}, XF C cls G X → Takes X (wx cls W) → X.env.scope = sc → chkX G m sc e = true → PE X e (tX X.K W true (ev C m))
  | .lst es, sc, e, F, tk, hs, h => by
    simp only [chkX] at h
    split at h
    · exact XF0 (Flst (chkEs_ok es F tk hs h).1)
    · cases h
  | .dnew, sc, e, F, tk, hs, h => by
    simp only [chkX] at h
    split at h
    · exact XF0 Fdnew
    · cases h
  | .op o a b, sc, e, F, tk, hs, h => by
    cases o with
    | add =>
      simp only [chkX] at h
      split at h
      · simp only [Bool.and_eq_true] at h
        exact XFadd (chkE_ok a F tk hs h.1).1 (chkE_ok b F tk hs h.2).1
      · cases h
    | _ => simp [chkX] at h
  | .bi b a, sc, e, F, tk, hs, h => by
    cases b with
    | dict =>
      simp only [chkX] at h
      split at h
      · simp only [Bool.and_eq_true, beq_iff_eq] at h
        obtain ⟨⟨⟨rfl, hx⟩, hn⟩, he⟩ := h
        obtain ⟨h1, h2, h3, h4⟩ := blt_of F hs hx
        exact XF0 (Fdict F.calm h1 h2 (by decide +kernel) h4 h3 hn (chkE_ok a F tk hs he).1)
      · cases h
    | _ => simp [chkX] at h
  | .call f es, sc, e, F, tk, hs, h => by
    simp only [chkX] at h
    split at h
    · rename_i x p a r p2
      simp only [Bool.and_eq_true] at h
      obtain ⟨⟨⟨hg, hf⟩, hn⟩, he⟩ := h
      obtain ⟨k1, k2, _⟩ := gl_of hs hg
      split at hf
      · rename_i g np fr e1
        simp only [Bool.and_eq_true, beq_iff_eq, decide_eq_true_eq] at hf
        obtain ⟨⟨rfl, rfl⟩, hl⟩ := hf
        obtain ⟨k, ad, fd, ps, q1, q2, q3, q4, q5⟩ := F.fn _ _ _ _ e1
        obtain ⟨r1, r2⟩ := chkEs_ok es F tk hs he
        exact XF0 (Fcall q1 q2 k1 q3 q4 q5 tk k2 rfl hn (tMs_len (by rw [← hl]; exact r2)) r1)
      · cases hf
    · cases h
  | .var _, _, _, _, _, _, h | .non, _, _, _, _, _, h | .bl _, _, _, _, _, _, h | .int _, _, _, _, _, _, h | .str _, _, _, _, _, _, h | .glob _, _, _, _, _, _, h | .tup _, _, _, _, _, _, h => by cases h
  | .neg _, _, _, _, _, _, h | .not_ _, _, _, _, _, _, h | .and_ _ _, _, _, _, _, _, h | .or_ _ _, _, _, _, _, _, h | .cmp _ _ _, _, _, _, _, _, h | .chain _ _ _ _ _, _, _, _, _, _, h | .ite _ _ _, _, _, _, _, _, h => by cases h
  | .idx _ _, _, _, _, _, _, h | .cut _ _ _, _, _, _, _, _, h | .get _ _, _, _, _, _, _, h | .split _ _, _, _, _, _, _, h | .index _ _, _, _, _, _, _, h | .comp _ _ _ _ _, _, _, _, _, _, h => by cases h
  | .lenO _, _, _, _, _, _, h | .idxO _ _, _, _, _, _, _, h | .inO _ _ _, _, _, _, _, _, h | .inG _ _, _, _, _, _, _, h | .idxG _ _, _, _, _, _, _, h => by cases h
theorem chkO_ok {o : Bool} (m : E) {sc : Scope} {e : Expr} (F : XF C cls G X) (tk : Takes X (wx cls W)) (hs : X.env.scope = sc) (h : chkO G o m sc e = true) : PE X e (tX X.K W o (ev C m)) := by
  cases o with
  | true => exact chkX_ok m F tk hs h
  | false => exact (chkE_ok m F tk hs h).1
theorem sl_of (F : XS C cls G TP X W) {cl : Bool} {sc : Scope} {i : Nat} {x : Str} (hs : X.env.scope = sc) (h : slB G cl sc i x = true) : X.N[i]? = some x ∧ Loc X.env.scope x ∧ (X.fn x = true ∨ X.env.scope.names.lookup x = some .local) := by
  unfold slB at h
  simp only [Bool.and_eq_true, beq_iff_eq] at h
  obtain ⟨h1, h2⟩ := h
  split at h2
  · rename_i e
    rw [← hs] at e
    exact ⟨by rw [F.hN]; exact h1, .inl e, .inr e⟩
  · rename_i e
    rw [← hs] at e
    exact ⟨by rw [F.hN]; exact h1, .inr e, .inl (F.fnc x e)⟩
  · cases h2
theorem loc_of {sc : Scope} {x : Str} (hs : X.env.scope = sc) (h : locB sc x = true) : X.env.scope.names.lookup x = some .local := by
  rw [hs]
  unfold locB at h
  split at h
  · assumption
  · cases h
theorem SsetComp (F : XS C cls G TP X W) {fr : Bool} {t : Ev.T} {own : List Nat} {s : Sr} {test elt : E} {sc : Scope} {x tg iter : Expr} {ifs : List Expr} {scope : Scope} {p pos py : Pos} {i : Nat} {y : Str} (hs : X.env.scope = sc) (hi : G.N[i]? = some y) (hy : locB sc y = true)
    (hl : (py.line == p.line) = true) (ha : (scope.names.any fun (n, k) => n == y && (k == .local || k == .cell)) = false) (hk : keysFree s = true) (h : chkE G (.comp t own s test elt) sc true (.ListComp x [⟨tg, iter, ifs, 0⟩] scope p) = true) :
    PS X (.Assign [.Name y py] (.ListComp x [⟨tg, iter, ifs, 0⟩] scope p) pos) (tS X.K TP W fr (exS C (.asg (.nm i) (.comp t own s test elt)))) := by
  unfold chkE at h
  simp only [Bool.and_eq_true, decide_eq_true_eq] at h
  obtain ⟨⟨⟨⟨⟨⟨⟨ho, hb⟩, hsl⟩, ht⟩, hns⟩, hsr⟩, hif⟩, hel⟩ := h
  have B := blk_of F.toXF hs hb
  rw [hk] at hif hel
  have hsl' : ∀ i ∈ slots t, i ∈ (ownNm G.N own).map (·.2) := fun i hi => by
    rw [ho]
    exact List.contains_iff_mem.mp (List.all_eq_true.mp hsl i hi)
  have k := SsetC (TP := TP) (W := W) (fr := fr) (i := i) (py := py) (spos := pos) (elt := x) (tg := tg) (iter := iter) (ifs := ifs) (ms := src C s) (mt := ev C test) (me := ev C elt) F.calm F.nd (by rw [F.hN]; exact hi) (loc_of hs hy) (sw_true F.kind (loc_of hs hy) hl ha)
    (chkS_ok s (tg := tg) F.toXF F.tk hs hsr hk) B hsl'
    (fun s H D cl fp => chkT_ok (X := X.blk s H scope (compEnvC scope cl D X.env) fp) F.toXF.blk (cl := false) (fun z => by cases z) (sc := relS scope sc) (by rw [← hs]; rfl) ht)
    (fun s H D cl fp => by
      split at hif
      · split at hif
        · exact PTsNil
        · cases hif
      · exact pts_one (chkE_ok test (X := X.blk s H scope (compEnvC scope cl D X.env) fp) F.toXF.blk takes0 (by rw [← hs]; rfl) hif).2
      · cases hif)
    (fun s H D cl fp => (chkE_ok elt (X := X.blk s H scope (compEnvC scope cl D X.env) fp) F.toXF.blk takes0 (by rw [← hs]; rfl) hel).1) hns
  rw [ho] at k
  exact k
end
section
variable {C : Cxt} {cls : Nat → Value} {G : Gs} {cl fr : Bool} {X : Cx} {TP : List Addr} {W : Nat → Hp → Prop}
theorem notSw {x : Str} {pos : Pos} {o b : Expr} {p : Pos} {c : Expr} {l : Nat} {env : PySem.Env} : swapsWith c (some (.Subscript o b p)) l env = pure false := sw_not (by intro _ _ z; cases z)
mutual
theorem chkSt_ok (F : XS C cls G TP X W) {sc : Scope} (hs : X.env.scope = sc) : ∀ (s : Ev.St) {st : Stmt}, chkSt G cl fr s sc st = true → PS X st (tS X.K TP W fr (exS C s))
  | .asg t m, st, h => by
    unfold chkSt at h
    split at h
    · rename_i tg v pos
      split at h
      · rename_i hc
        simp only [Bool.and_eq_true, Bool.or_eq_true] at h
        obtain ⟨⟨⟨h1, h2⟩, h3⟩, h4⟩ := h
        refine Sasg (chkE_ok m F.toXF F.tk hs h4).1 (chkT_ok F.toXF (fun _ => F.fnc) hs h3) (sw_of hc) ?_ (ae_one h2)
        rcases h1 with h1 | h1
        · exact st_val h1
        · exact st_tgt h1
      · split at h
        · rename_i i y py t' own s test elt x ctg iter ifs scope p
          simp only [Bool.and_eq_true, beq_iff_eq, Bool.not_eq_true'] at h
          obtain ⟨⟨⟨⟨⟨h1, h2⟩, h3⟩, h4⟩, h5⟩, h6⟩ := h
          exact SsetComp F hs h1 h2 (by rw [h3]; exact beq_self_eq_true _) h4 h5 h6
        · cases h
    · cases h
  | .own i m, st, h => by
    unfold chkSt at h
    split at h
    · simp only [Bool.and_eq_true] at h
      obtain ⟨k1, k2, k3⟩ := sl_of F hs h.1.2
      exact Sset F.nd k1 k2 (chkX_ok m F.toXF F.tk hs h.2) (sw_of h.1.1) k3
    · cases h
  | .par2 i j o1 o2 a b, st, h => by
    unfold chkSt at h
    split at h
    · rename_i x px y py kt pt u v k2 pt2 pos
      rw [Bool.and_eq_true, Bool.and_eq_true, Bool.and_eq_true, Bool.and_eq_true, Bool.and_eq_true, Bool.or_eq_true, Bool.and_eq_true, Bool.and_eq_true, Bool.and_eq_true, Bool.and_eq_true, beq_iff_eq, beq_iff_eq, Bool.not_eq_true'] at h
      obtain ⟨⟨⟨⟨⟨h1, h2⟩, h3⟩, h4⟩, h5⟩, h6⟩ := h
      have h4 : i ≠ j := by simpa using h4
      rcases h1 with h1 | ⟨⟨⟨⟨g1, g2⟩, g3⟩, g4⟩, g5⟩
      · have hp := par_of (kt := kt) (pt := pt) (k2 := k2) (pt2 := pt2) hs (by rw [← hs]; exact F.kind) h1
        unfold parB at h1
        simp only [Bool.and_eq_true] at h1
        obtain ⟨⟨⟨⟨⟨⟨⟨q1, q2⟩, _⟩, _⟩, q5⟩, q6⟩, _⟩, _⟩ := h1
        exact Spar2 F.calm F.nd (by rw [F.hN]; exact h2) (by rw [F.hN]; exact h3) h4 (loc_of hs q1) (loc_of hs q2) q5 q6 (chkO_ok a F.toXF F.tk hs h5) (chkO_ok b F.toXF F.tk hs h6) hp
      · obtain ⟨a1, a2, a3⟩ := sl_of F hs g2
        obtain ⟨b1, b2, b3⟩ := sl_of F hs g3
        exact Spar2T F.calm F.nd a1 b1 a2 b2 a3 b3 h4 g4 g5 (chkO_ok a F.toXF F.tk hs h5) (chkO_ok b F.toXF F.tk hs h6) (par_none hs (by rw [← hs]; exact F.kind) g4 g5 g1)
    · cases h
  | .setR o k v, st, h => by
    unfold chkSt at h
    split at h
    · simp only [Bool.and_eq_true] at h
      exact SsetR (chkE_ok o F.toXF F.tk hs h.1.1.2).1 (chkE_ok k F.toXF F.tk hs h.1.2).1 (chkE_ok v F.toXF F.tk hs h.2).1 h.1.1.1 (sw_not (by intro _ _ z; cases z)) (st_tgt rfl)
    · cases h
  | .setO i k v, st, h => by
    unfold chkSt at h
    split at h
    · simp only [Bool.and_eq_true] at h
      obtain ⟨k1, k2, k3, k4⟩ := nm_of F.toXF hs h.1.1
      have u := F.units
      exact SsetO (by omega) k1 k2 k3 k4 (chkE_ok k F.toXF F.tk hs h.1.2).1 (chkE_ok v F.toXF F.tk hs h.2).1 (sw_not (by intro _ _ z; cases z))
    · cases h
  | .app i m, st, h => by
    unfold chkSt at h
    split at h
    · simp only [Bool.and_eq_true, beq_iff_eq] at h
      obtain ⟨⟨⟨⟨rfl, h1⟩, h2⟩, h3⟩, h4⟩ := h
      obtain ⟨k1, k2, k3, k4⟩ := nm_of F.toXF hs h1
      exact Sapp k1 k2 k3 k4 h2 (by rw [h3]; exact beq_self_eq_true _) (chkE_ok m F.toXF F.tk hs h4).1
    · cases h
  | .upd i m, st, h => by
    unfold chkSt at h
    split at h
    · simp only [Bool.and_eq_true, beq_iff_eq] at h
      obtain ⟨⟨⟨⟨rfl, h1⟩, h2⟩, h3⟩, h4⟩ := h
      obtain ⟨k1, k2, k3, k4⟩ := nm_of F.toXF hs h1
      exact Supd k1 k2 k3 k4 h2 (by rw [h3]; exact beq_self_eq_true _) (chkE_ok m F.toXF F.tk hs h4).1
    · cases h
  | .ex m, st, h => by
    unfold chkSt at h
    split at h
    · simp only [Bool.and_eq_true] at h
      exact Sex (chkE_ok m F.toXF F.tk hs h.2).1 (sw_of h.1)
    · cases h
  | .ret m, st, h => by
    unfold chkSt at h
    split at h
    · simp only [Bool.and_eq_true, Bool.not_eq_true'] at h
      exact Sret (chkE_ok m F.toXF F.tk hs h.2).1 h.1
    · cases h
  | .retOwn i, st, h => by
    unfold chkSt at h
    split at h
    · obtain ⟨k1, k2, k3, k4⟩ := nm_of F.toXF hs h
      exact SretOwn k1 k2 k3 k4
    · cases h
  | .ite t a b, st, h => by
    unfold chkSt at h
    split at h
    · simp only [Bool.and_eq_true] at h
      exact Site (chkE_ok t F.toXF F.tk hs h.1.1).2 (chkSts_ok F hs a h.1.2) (chkSts_ok F hs b h.2)
    · cases h
  | .for_ t s b, st, h => by
    unfold chkSt at h
    split at h
    · simp only [Bool.and_eq_true] at h
      obtain ⟨⟨⟨⟨h1, h2⟩, h3⟩, h4⟩, h5⟩ := h
      exact Sfor F.ps F.calm (chkS_ok s F.toXF F.tk hs h4 h2) (chkT_ok F.toXF (fun _ => F.fnc) hs h1) (chkSts_ok F hs b h5) (fold_of h3)
    · cases h
  | .raise_ c, st, h => by
    unfold chkSt at h
    split at h
    · simp only [Bool.and_eq_true, beq_iff_eq] at h
      obtain ⟨k1, k2, _⟩ := gl_of hs h.1
      obtain ⟨Cc, bmB, B, newId, initId, q1, q2, q3, q4, q5, q6⟩ := F.ex _ _ h.2
      exact Sraise F.calm F.tk (by rw [q6]; exact pmk_own q1 q2 q3 q4 q5 k1 k2)
    · cases h
  | .pass_, st, h => by
    unfold chkSt at h
    split at h
    · exact Spass
    · cases h
  | .spec n, st, h => by
    unfold chkSt at h
    rw [Bool.and_eq_true, Bool.not_eq_true'] at h
    have hf : fr = false := h.1
    subst hf
    exact F.sp n st h.2
  | .freeze _, st, h => by unfold chkSt at h; cases h
  | .share _, st, h => by unfold chkSt at h; cases h
theorem chkSts_ok (F : XS C cls G TP X W) {sc : Scope} (hs : X.env.scope = sc) : ∀ (s : Sts) {sts : List Stmt}, chkSts G cl fr s sc sts = true → PSs X sts (tS X.K TP W fr (exSs C s))
  | .nil, sts, h => by
    unfold chkSts at h
    cases sts with
    | nil => exact Snil
    | cons e r => cases h
  | .cons s r, sts, h => by
    unfold chkSts at h
    split at h
    · exact Sfreeze (chkSts_ok F hs r h)
    · exact Sshare (chkSts_ok F hs r h)
    · split at h
      · simp only [Bool.and_eq_true] at h
        exact Scons (chkSt_ok F hs s h.1) (chkSts_ok F hs r h.2)
      · cases h
end
end
end EvS
end
section
set_option Elab.async false
set_option linter.all false
set_option maxRecDepth 100000
set_option maxHeartbeats 1000000
/-! EvAB: the defs of the program, by the depth of their calls. -/
namespace EvS
open PySem PySem.Spec PyProof.Rows L2 Ev
/-- a def: its name, its text, its slots, its parameters, its own form -/
structure DD where
  x : Str
  qual : Str
  st : Stmt
  N : List Str
  ps : List Str
  df : Df
/-- the module: constants, dicts, what is outside the language -/
structure Md where
  glob : Nat → EV
  dct : Nat → List K0 × List EV
  dds : List DD
def Md.cx (M : Md) : Nat → Cxt
  | 0 => { callF := fun _ _ _ => .bad, glob := M.glob, dct := M.dct, spec := fun _ _ _ => SRes.bad }
  | k + 1 => { callF := fun f args h => (match M.dds[f]? with
      | some d => runDf (M.cx k) d.df args h
      | none => .bad), glob := M.glob, dct := M.dct, spec := fun _ _ _ => SRes.bad }
def scopeB (N ps : List Str) (sc : Scope) : Bool :=
  (match sc.kind with
  | .function => true
  | _ => false) && !sc.isCoroutine && !sc.isGenerator && decide N.Nodup && decide (N.take ps.length = ps) && ps.all (fun x => match sc.names.lookup x with
    | some .local => true
    | some .cell => true
    | _ => false) && sc.names.all (fun y => !(y.2 == .free))
def ddB (G : Gs) (d : DD) : Bool := scopeB d.N d.ps (defScope d.st) && decide (d.ps.length = d.df.np) && decide (d.N.length = d.df.ns) && chkSts { G with N := d.N } true d.df.fresh d.df.body (defScope d.st) (defBody d.st)
theorem scope_of {N ps : List Str} {sc : Scope} (h : scopeB N ps sc = true) : FnScope N ps sc := by
  unfold scopeB at h
  simp only [Bool.and_eq_true, Bool.not_eq_true', decide_eq_true_eq, List.all_eq_true, beq_eq_false_iff_ne] at h
  obtain ⟨⟨⟨⟨⟨⟨h1, h2⟩, h3⟩, h4⟩, h5⟩, h6⟩, h7⟩ := h
  refine ⟨?_, h2, h3, h4, h5, fun x hx => ?_, fun y hy => h7 y hy⟩
  · split at h1
    · assumption
    · cases h1
  · have := h6 x hx
    split at this
    · exact .inl ‹_›
    · exact .inr ‹_›
    · cases this
/-- what stands in the module behind its top -/
structure MF (M : Md) (cls : Nat → Value) (G : Gs) (K : PySem.W.Frag) (w : World) (mg : Str → Option Value) : Prop where
  fn : ∀ x f np fr, G.fns.lookup x = some (f, np, fr) → ∃ d ad fd, M.dds[f]? = some d ∧ np = d.df.np ∧ fr = d.df.fresh ∧ Fun K d.x d.qual d.st ad fd ∧ mg x = some (.ref ad) ∧ Binds K fd d.ps []
  gl : ∀ x g, G.gls.lookup x = some g → ∃ v u, mg x = some u ∧ RelV v u ∧ ∀ N ρ H, RV K N ρ H (M.glob g) v
  dc : ∀ x g, G.dcs.lookup x = some g → ∃ d es n, mg x = some (.ref d) ∧ KDict K w d es n ∧ (∀ s, txt s = true → ∃ r, PySem.W.nsIn K d (toS s) = some r ∧ r.isSome = decide (K0.s s ∈ (M.dct g).1)) ∧
    ∀ s v, txt s = true → dget (M.dct g).1 (M.dct g).2 (K0.s s) = some v → ∃ u0 v0, PySem.W.nsIn K d (toS s) = some (some u0) ∧ RelV v0 u0 ∧ ∀ N ρ H, RV K N ρ H v v0
  bl : ∀ x, x ∈ G.blt → mg x = none
  ex : ∀ x k, G.exs.lookup x = some k → ∃ (Cc : Addr) (bmB : List Value) (B newId initId : String), ExcBaseFacts B newId initId bmB ∧ PySem.W.excIn K Cc bmB newId = true ∧ mg x = some (.ref Cc) ∧ PySem.W.keepIn K (.ref Cc) = true ∧
    (PySem.W.subIn K (.ref Cc) (.type "BaseException") = some true ∧ PySem.W.typeIn K (.ref Cc) = some (.type "type")) ∧ cls k = .ref Cc
  dd : ∀ d ∈ M.dds, ddB G d = true
  rep : G.rep = false
  spB : ∀ n st, G.spB n st = false
theorem cx_glob (M : Md) : ∀ k, (M.cx k).glob = M.glob
  | 0 => rfl
  | _ + 1 => rfl
theorem cx_dct (M : Md) : ∀ k, (M.cx k).dct = M.dct
  | 0 => rfl
  | _ + 1 => rfl
/-- the slots at the entry -/
theorem start_get {ns : Nat} {args : List EV} {i : Nat} {w : SV} (h : (startE ns args)[i]? = some (some w)) : ∃ v, args[i]? = some v ∧ w = .val v := by
  unfold startE at h
  by_cases hi : i < args.length
  · rw [List.getElem?_append_left (by rw [List.length_map]; exact hi), List.getElem?_map] at h
    obtain ⟨v, hv, e⟩ := Option.map_eq_some_iff.mp h
    cases e
    exact ⟨v, hv, rfl⟩
  · rw [List.getElem?_append_right (by rw [List.length_map]; omega), List.getElem?_replicate] at h
    split at h <;> cases h
theorem SS.start {K : PySem.W.Frag} {TP : List Addr} {N : Nz} {ρ : List Addr} {H : Hp} {h : Hh} {args : List EV} {vs : List V} {Ns : List Str} {ns : Nat} (hn : Ns.length = ns) (hl : args.length ≤ ns) (unl : ∀ p, ¬ N.z p) (rh : RH K N ρ H h) (r : RVs K N ρ H args vs) (t0 : Tbs TP H) :
    SS K TP N ρ H [] N ρ (startE ns args) h (L2.start Ns vs) H := by
  have hlen := r.length
  have no : ∀ i, ¬ ownA (startE ns args) i := fun i o => by
    rcases o with ⟨xs, o⟩ | ⟨ks, us, o⟩ <;> (obtain ⟨v, _, e⟩ := start_get o; cases e)
  refine ⟨unl, unl, rh.trk, fun _ q => q, fun _ q => .inl q, rh.refl, ⟨rh, ?_, fun i v q => ?_, fun i xs q => ?_, fun i ks us q => ?_⟩, fun i a o => (no i o).elim, fun i j a o => (no i o).elim, (fun p q => by cases q), t0⟩
  · unfold startE L2.start
    simp only [List.length_append, List.length_map, List.length_replicate]
    omega
  · obtain ⟨v', hv, e⟩ := start_get q
    cases e
    obtain ⟨y, h1, h2⟩ := r.get hv
    refine ⟨y, ?_, h2⟩
    unfold L2.start
    have : i < vs.length := (List.getElem?_eq_some_iff.mp h1).1
    rw [List.getElem?_append_left (by rw [List.length_map]; exact this), List.getElem?_map, h1]
    rfl
  · obtain ⟨v, _, e⟩ := start_get q
    cases e
  · obtain ⟨v, _, e⟩ := start_get q
    cases e
section
variable {M : Md} {cls : Nat → Value} {G : Gs} {P : Program} {w : World} {K : PySem.W.Frag} {mg : Str → Option Value} {base : Heap}
theorem fn_at (F : MF M cls G K w mg) : ∀ (k f : Nat) (d : DD) (ad : Addr) (fd : FuncData), M.dds[f]? = some d → Fun K d.x d.qual d.st ad fd → FnOk P w K mg base (L2.CX P w) k ad fd d.ps (spE K cls d.df.np d.df.fresh ((M.cx k).callF f))
  | 0, f, d, ad, fd, hd, hf => by
    have hb := F.dd d (List.mem_of_getElem? hd)
    unfold ddB at hb
    simp only [Bool.and_eq_true, decide_eq_true_eq] at hb
    exact ⟨fun vs H Q E q => by rw [hb.1.1.2]; exact q.1, fun A outer s H args us vs Q E hr e0 bt r q => by
      obtain ⟨_, N, ρ, h, as, _, _, _, z⟩ := q
      exact (show False from z).elim⟩
  | k + 1, f, d, ad, fd, hd, hf => by
    have hb := F.dd d (List.mem_of_getElem? hd)
    unfold ddB at hb
    simp only [Bool.and_eq_true, decide_eq_true_eq] at hb
    obtain ⟨⟨⟨b1, b2⟩, b3⟩, b4⟩ := hb
    have S := scope_of b1
    have cf : (M.cx (k + 1)).callF f = fun args h => runDf (M.cx k) d.df args h := by
      funext args h
      show (match M.dds[f]? with
        | some d => runDf (M.cx k) d.df args h
        | none => Res.bad) = _
      rw [hd]
    rw [cf]
    refine hf.okX S (fun vs H Q E q => by rw [b2]; exact q.1) fun cdv A outer s H vs Q E hr sp => ?_
    obtain ⟨hl, N0, ρ, h, args, unl, rh, rvs, q⟩ := sp
    have hal : args.length = d.df.np := by rw [rvs.length]; exact hl
    have X1 : XF (M.cx k) cls { G with N := d.N } (cxOf (L2.CX P w) P w K mg base d.N d.qual (defScope d.st) ad cdv A outer s H E) := by
      refine ⟨rfl, rfl, S.nd, ?_, fun x f np fr e => ?_, fun x g e => ?_, fun x g e => ?_, F.bl, fun z => by rw [F.rep] at z; cases z⟩
      · have := hr.un
        show (A.deeper _).units + 65 < cLine
        omega
      · obtain ⟨d', ad', fd', q1, q2, q3, q4, q5, q6⟩ := F.fn x f np fr e
        subst q2; subst q3
        exact ⟨k, ad', fd', d'.ps, fn_at F k f d' ad' fd' q1 q4, hr, q5, q4.kp, q6⟩
      · rw [cx_glob]; exact F.gl x g e
      · rw [cx_dct]; exact ⟨F.dc x g e⟩
    have XX : XS (M.cx k) cls { G with N := d.N } [] (cxOf (L2.CX P w) P w K mg base d.N d.qual (defScope d.st) ad cdv A outer s H E) (fun c H => E (cls c) none H) := by
      refine ⟨X1, ?_, passes_of rfl, S.kind, fun _ _ => rfl, fun x k' e => ?_, fun n st z => by rw [F.spB] at z; cases z⟩
      · refine (takes_of (X := cxOf (L2.CX P w) P w K mg base d.N d.qual (defScope d.st) ad cdv A outer s H E) (E := E) rfl rfl rfl rfl).imp fun c dd σ H' z => ?_
        obtain ⟨kk, rfl, rfl, z⟩ := z
        exact z
      · obtain ⟨Cc, bmB, B, newId, initId, q1, q2, q3, q4, q5, q6⟩ := F.ex x k' e
        exact ⟨Cc, bmB, B, newId, initId, q1, q2, q3, q4, raises_own q5.1 q5.2, q6⟩
    refine ⟨_, chkSts_ok (fr := d.df.fresh) XX rfl d.df.body b4, N0, ρ, H, [], N0, ρ, startE d.df.ns args, h, SS.start b3 ?_ unl rh rvs (fun p q => by cases q), ?_⟩
    · rw [hal, ← b2, ← b3]
      have := congrArg List.length S.pre
      rw [List.length_take] at this
      omega
    · unfold runDf at q
      dsimp only at q
      rw [if_pos hal] at q
      cases e : exSs (M.cx k) d.df.body (startE d.df.ns args) h with
      | bad => rw [e] at q; exact q
      | nx env1 h1 =>
        rw [e] at q
        intro N1 ρ1 σ1 H1 s1
        dsimp only at q
        split at q
        · exact (show False from q).elim
        · rename_i hfr
          exact q ρ1 H1 .non s1.ext s1.rh0 rfl fun z => (hfr z).elim
      | rt v h1 =>
        rw [e] at q
        exact fun ρ1 H1 x ex r1 rv f => q ρ1 H1 x ex r1 rv f
      | exc c h1 =>
        rw [e] at q
        exact fun ρ1 H1 ex r1 => q ρ1 H1 ex r1
end
end EvS
end
section
set_option Elab.async false
set_option linter.all false
set_option maxRecDepth 100000
set_option maxHeartbeats 1000000
/-! EvAD: the law's own def, where it is called. -/
namespace EvS
open PySem PySem.Spec PyProof.Rows L2 Ev
/-- the promise of a def called by the caller -/
structure FnC (P : Program) (w : World) (K : PySem.W.Frag) (mg : Str → Option Value) (base : Heap) (k : Nat) (f : Addr) (fd : FuncData) (ps : List Str) (sp : Sp) : Prop where
  len : ∀ vs H Q E, sp vs H Q E → vs.length = ps.length
  run : ∀ (outer : List PySem.Env) (s : Shared) (H : Hp) (args : Args) (us : List Value) (vs : List V) (Q : VK) (E : XK), Room k callerA → Env0 P w K mg base callerA outer s H → BindsTo s fd args (ps.zip us) → Vals vs us → sp vs H Q E →
    codeAny (model P w) callerA (.call (.ref f) args) (CR (L2.CX P w) outer P w H s Q E) s
theorem guards_deeper (env : PySem.Env) : (callerA.deeper env).guards = some [] := rfl
theorem fnC_of {P : Program} {w : World} {K : PySem.W.Frag} {mg : Str → Option Value} {base : Heap} {x qual : Str} {st : Stmt} {f : Addr} {fd : FuncData} {N ps : List Str} {k : Nat} {sp : Sp} (F : Fun K x qual st f fd) (S : FnScope N ps (defScope st)) (len : ∀ vs H Q E, sp vs H Q E → vs.length = ps.length)
    (body : ∀ (cdv : Value) (outer : List PySem.Env) (s : Shared) (H : Hp) (vs : List V) (Q : VK) (E : XK), (∃ kV doc pm an ct, fd = PySem.W.fnOf x qual (defArgs st) (defBody st) (defScope st) .none kV doc pm an cdv ct) → Room k (callerA.deeper (envOfC qual (defScope st) s.heap.objs.size f cdv)) → sp vs H Q E →
      ∃ t, PSs (cxOf (L2.CX P w) P w K mg base N qual (defScope st) f cdv callerA outer s H E) (defBody st) t ∧ t { nx := fun _ H' => Q .non H', rt := Q } (L2.start N vs) H) : FnC P w K mg base (k + 1) f fd ps sp := by
  obtain ⟨oc, od, kV, doc, pm, an, cdv, ct, osl, rfl, lk, hcd⟩ := F.ex
  refine ⟨len, fun outer s H args us vs Q E hr e0 bt r hs => ?_⟩
  have lV := len _ _ _ _ hs
  have KX : K.In s.heap := e0.mod.kin.keeps fun b o e => (e0.bs b o e).1
  have nl : s.heap.NoLimit := e0.mod.nolimit.keeps fun b o e => (e0.bs b o e).1
  have kinds : ∀ y ∈ ps.zip us, (defScope st).names.lookup y.1 = some .local ∨ ((defScope st).names.lookup y.1 = some .cell ∧ ((cellsFrom (s.heap.objs.size + 1) (defScope st).names []).lookup y.1).isSome = true) := fun ⟨n, v⟩ hy =>
    (S.par n (List.of_mem_zip hy).1).imp id fun q => ⟨q, PySem.W.cellsFrom_some _ _ _ (.inl q)⟩
  refine codeAny_call_function hr.depth (KX _ _ lk) rfl S.co S.gen rfl (PySem.W.codeRec_of KX hcd) (bt _ _ _ _ (wpAny_newFunctionEnv_cells S.kind kinds fun env he s1 xx => ?_))
  subst he
  obtain ⟨t, ht, hq⟩ := body cdv outer s H vs Q E ⟨_, _, _, _, _, rfl⟩ (hr.deeper _) hs
  refine ⟨nl.keeps xx.toInCall.keep, codeAny_func (wpAny_mono (ht.run [] s1 (L2.start N vs) H _ (inv_start S hr.hd e0 lV r xx) hq) (fun fl s2 g => ?_) fun e s2 g => g)⟩
  cases fl with
  | ret u => obtain ⟨v, σ', H', J, rv, q⟩ := g; exact ⟨v, H', J.os, J.bare, J.base, J.hok, rv, q⟩
  | next => obtain ⟨σ', H', J, q⟩ := g; exact ⟨V.non, H', J.os, J.bare, J.base, J.hok, rfl, q⟩
  | brk => obtain ⟨_, _, _, q⟩ := g; exact q.elim
  | cont => obtain ⟨_, _, _, q⟩ := g; exact q.elim
/-- a def's body, from its checks -/
theorem body_ok {TP : List Addr} {C : Cxt} {cls : Nat → Value} {G' : Gs} {P : Program} {w : World} {K : PySem.W.Frag} {mg : Str → Option Value} {base : Heap} {d : DD} {ad : Addr} {cdv : Value} {A : Around} {outer : List PySem.Env} {s : Shared} {H : Hp} {vs : List V} {Q : VK} {E : XK}
    (S : FnScope d.N d.ps (defScope d.st)) (b2 : d.ps.length = d.df.np) (b3 : d.N.length = d.df.ns) (b4 : chkSts G' true d.df.fresh d.df.body (defScope d.st) (defBody d.st) = true)
    (XX : XS C cls G' TP (cxOf (L2.CX P w) P w K mg base d.N d.qual (defScope d.st) ad cdv A outer s H E) (fun c H => E (cls c) none H)) (t0 : Tbs TP H) (sp : spE K cls d.df.np d.df.fresh (fun args h => runDf C d.df args h) vs H Q E) :
    ∃ t, PSs (cxOf (L2.CX P w) P w K mg base d.N d.qual (defScope d.st) ad cdv A outer s H E) (defBody d.st) t ∧ t { nx := fun _ H' => Q .non H', rt := Q } (L2.start d.N vs) H := by
  obtain ⟨hl, N0, ρ, h, args, unl, rh, rvs, q⟩ := sp
  have hal : args.length = d.df.np := by rw [rvs.length]; exact hl
  refine ⟨_, chkSts_ok (fr := d.df.fresh) XX rfl d.df.body b4, N0, ρ, H, [], N0, ρ, startE d.df.ns args, h, SS.start b3 ?_ unl rh rvs t0, ?_⟩
  · rw [hal, ← b2, ← b3]
    have := congrArg List.length S.pre
    rw [List.length_take] at this
    omega
  · unfold runDf at q
    dsimp only at q
    rw [if_pos hal] at q
    cases e : exSs C d.df.body (startE d.df.ns args) h with
    | bad => rw [e] at q; exact q
    | nx env1 h1 =>
      rw [e] at q
      intro N1 ρ1 σ1 H1 s1
      dsimp only at q
      split at q
      · exact (show False from q).elim
      · rename_i hfr
        exact q ρ1 H1 .non s1.ext s1.rh0 rfl fun z => (hfr z).elim
    | rt v h1 =>
      rw [e] at q
      exact fun ρ1 H1 x ex r1 rv f => q ρ1 H1 x ex r1 rv f
    | exc c h1 =>
      rw [e] at q
      exact fun ρ1 H1 ex r1 => q ρ1 H1 ex r1
/-- the law's promise: its tables of code objects are known -/
def spT (TP : List Addr) (sp : Sp) : Sp := fun vs H Q E => Tbs TP H ∧ sp vs H Q E
/-- the law's def: repr may be used, and what is told apart by sp -/
theorem law_at {TP : List Addr} {M : Md} {cls : Nat → Value} {G : Gs} {P : Program} {w : World} {K : PySem.W.Frag} {mg : Str → Option Value} {base : Heap} (F : MF M cls G K w mg) (k : Nat) (sp : Nat → MS) (spB : Nat → Stmt → Bool) (d : DD) (ad : Addr) (fd : FuncData) (hf : Fun K d.x d.qual d.st ad fd)
    (hb : scopeB d.N d.ps (defScope d.st) = true) (b2 : d.ps.length = d.df.np) (b3 : d.N.length = d.df.ns) (b4 : chkSts { G with N := d.N, rep := true, spB := spB } true d.df.fresh d.df.body (defScope d.st) (defBody d.st) = true)
    (hsp : ∀ (cdv : Value) (outer : List PySem.Env) (s : Shared) (H : Hp) (E : XK), (∃ kV doc pm an ct, fd = PySem.W.fnOf d.x d.qual (defArgs d.st) (defBody d.st) (defScope d.st) .none kV doc pm an cdv ct) →
      XF (M.cx k) cls { G with N := d.N, rep := true, spB := spB } (cxOf (L2.CX P w) P w K mg base d.N d.qual (defScope d.st) ad cdv callerA outer s H E) → Takes (cxOf (L2.CX P w) P w K mg base d.N d.qual (defScope d.st) ad cdv callerA outer s H E) (wx cls fun c H => E (cls c) none H) →
      Room k (callerA.deeper (envOfC d.qual (defScope d.st) s.heap.objs.size ad cdv)) →
      ∀ n st, spB n st = true → PS (cxOf (L2.CX P w) P w K mg base d.N d.qual (defScope d.st) ad cdv callerA outer s H E) st (tS K TP (fun c H => E (cls c) none H) false (sp n))) :
    FnC P w K mg base (k + 1) ad fd d.ps (spT TP (spE K cls d.df.np d.df.fresh (fun args h => runDf { M.cx k with spec := sp } d.df args h))) := by
  have S := scope_of hb
  refine fnC_of hf S (fun vs H Q E q => by rw [b2]; exact q.2.1) fun cdv outer s H vs Q E hcd hr q => ?_
  have X1 : XF (M.cx k) cls { G with N := d.N, rep := true, spB := spB } (cxOf (L2.CX P w) P w K mg base d.N d.qual (defScope d.st) ad cdv callerA outer s H E) := by
    refine ⟨rfl, rfl, S.nd, ?_, fun x f np fr e => ?_, fun x g e => ?_, fun x g e => ?_, F.bl, fun _ => rfl⟩
    · have := hr.un
      show (callerA.deeper _).units + 65 < cLine
      omega
    · obtain ⟨d', ad', fd', q1, q2, q3, q4, q5, q6⟩ := F.fn x f np fr e
      subst q2; subst q3
      exact ⟨k, ad', fd', d'.ps, fn_at F k f d' ad' fd' q1 q4, hr, q5, q4.kp, q6⟩
    · rw [cx_glob]; exact F.gl x g e
    · rw [cx_dct]; exact ⟨F.dc x g e⟩
  have tk : Takes (cxOf (L2.CX P w) P w K mg base d.N d.qual (defScope d.st) ad cdv callerA outer s H E) (wx cls fun c H => E (cls c) none H) := by
    refine (takes_of (X := cxOf (L2.CX P w) P w K mg base d.N d.qual (defScope d.st) ad cdv callerA outer s H E) (E := E) rfl rfl rfl rfl).imp fun c dd σ H' z => ?_
    obtain ⟨kk, rfl, rfl, z⟩ := z
    exact z
  have X2 : XF { M.cx k with spec := sp } cls { G with N := d.N, rep := true, spB := spB } (cxOf (L2.CX P w) P w K mg base d.N d.qual (defScope d.st) ad cdv callerA outer s H E) := ⟨X1.calm, X1.hN, X1.nd, X1.units, X1.fn, X1.gl, X1.dc, X1.bl, X1.rp⟩
  refine body_ok (TP := TP) S b2 b3 b4 (C := { M.cx k with spec := sp }) ⟨X2, tk, passes_of rfl, S.kind, fun _ _ => rfl, fun x k' e => ?_, fun n st z => hsp cdv outer s H E hcd X1 tk hr n st z⟩ q.1 q.2
  obtain ⟨Cc, bmB, B, newId, initId, q1, q2, q3, q4, q5, q6⟩ := F.ex x k' e
  exact ⟨Cc, bmB, B, newId, initId, q1, q2, q3, q4, raises_own q5.1 q5.2, q6⟩
/-- the caller calls the law with a list of ints -/
theorem law_go {P : Program} {w : World} {K : PySem.W.Frag} {mg mb : Str → Option Value} {k : Nat} {fa a : Addr} {fd : FuncData} {x : Str} {sp : Sp} {s : Shared} {us : List Value} {ns : List Int}
    (kin : K.In s.heap) (gns : s.heap.Ns mainGlobals mg) (bns : s.heap.Ns builtinsNs mb) (bb : ∀ x : Str, x ≠ "__name__" → mb x = bootBuiltins x) (lim : s.heap.NoLimit) (gs : s.gens = #[])
    (la : s.heap.get? a = some { cls := .type "list", data := .seq us.toArray }) (ia : IntsAre us ns) (sz : ns.length ≤ sizeLine) (room : Room k callerA)
    (F : ∀ base : Heap, K.In base → base.Ns mainGlobals mg → FnC P w K mg base k fa fd [x] sp) (bind : ∀ (s : Shared) (u : Value), BindsTo s fd ⟨[u], []⟩ [(x, u)])
    (hs : ∀ H : Hp, SqL K H a (ns.map V.int) → sp [.ref a] H (fun v _ => v = .bl true) fun _ _ _ => False) :
    codeAny (model P w) callerA (.call (.ref fa) ⟨[.ref a], []⟩) (fun r s' => r = .ok (.ret (.bool true)) ∧ OldK s.heap s'.heap ∧ s'.os = s.os ∧ AllBare s'.gens) s := by
  have vi := vals_ints ia
  have lu := ia.length
  have main : ∀ H : Hp, Only H → SqL K H a (ns.map V.int) → HOk P w H s.heap → (∀ b, H b ≠ none → b = a) → (H a ≠ none → K.lookup a = none) →
      codeAny (model P w) callerA (.call (.ref fa) ⟨[.ref a], []⟩) (fun r s' => r = .ok (.ret (.bool true)) ∧ OldK s.heap s'.heap ∧ s'.os = s.os ∧ AllBare s'.gens) s := fun H only sq hok onlyA noK => by
    have free : ∀ {b : Addr} {o : Obj}, s.heap.get? b = some o → (b = a → False) → H b = none := fun {b o} _ n => by
      cases q : H b with
      | none => rfl
      | some u => exact (n (onlyA b (by rw [q]; exact Option.some_ne_none u))).elim
    have dict : ∀ {b : Addr} {o : Obj} {es : Array DictEntry} {ep : Nat}, s.heap.get? b = some o → o.data = .dict es ep → H b = none := fun {b o es ep} e d => free e fun z => by
      subst z
      rw [la] at e; cases e
      exact nomatch (show Data.seq us.toArray _ = Data.dict es ep from d)
    have nsOf : ∀ {b : Addr} {m : Str → Option Value}, s.heap.Ns b m → (hidT s.heap H).Ns b m := fun {b m} ⟨o, es, ep, e, d, r⟩ => ⟨o, es, ep, hidT_get e (dict e d), d, r⟩
    have kb : K.In (hidT s.heap H) := fun b o e => hidT_get (kin b o e) (by
      cases q : H b with
      | none => rfl
      | some u =>
        have z : b = a := onlyA b (by rw [q]; exact Option.some_ne_none u)
        subst z
        rw [noK (by rw [q]; exact Option.some_ne_none u)] at e; cases e)
    have md : Mod K mg (hidT s.heap H) := ⟨kb, nsOf gns, ⟨mb, nsOf bns, bb⟩, lim.elim fun mc h => ⟨mc, nsOf h.1, h.2⟩⟩
    have env0 : Env0 P w K mg (hidT s.heap H) callerA [] s H := ⟨rfl, md, fun b o e => of_hidT e, Nat.le_of_eq (hidT_size _ _), trivial, fun b hb => absurd (show b ∈ ([] : List Addr) from hb) List.not_mem_nil, hok, .of_eq gs⟩
    have run := (F _ kb (nsOf gns)).run [] s H ⟨[.ref a], []⟩ [.ref a] [.ref a] _ _ room env0 (bind s (.ref a)) (.cons rfl .nil) (hs H sq)
    refine codeAny_mono run fun r s' h => ?_
    cases r with
    | error e => obtain ⟨_, _, _, _, _, _, _, _, _, _, _, _, z⟩ := h; exact z.elim
    | ok fl =>
      cases fl with
      | ret u =>
        obtain ⟨v, H', os, bare, un, hok', rv, rfl⟩ := h
        cases (show u = Value.bool true from rv)
        refine ⟨rfl, OldK.of_keep fun b o e => ?_, os, bare⟩
        cases q : H b with
        | none => exact un.keep b o e q (fun z => absurd (show b ∈ ([] : List Addr) from z) List.not_mem_nil) (by simp)
        | some u =>
          rcases only b with z | ⟨ob, xs, z⟩
          · rw [q] at z; cases z
          · obtain ⟨g1, _⟩ := hok b _ z
            obtain ⟨g2, _⟩ := hok' b _ (un.frzs b ob _ z)
            rw [e] at g1; cases g1
            exact g2
      | next => exact False.elim h
      | brk => exact False.elim h
      | cont => exact False.elim h
  cases hk : K.lookup a with
  | some o =>
    have e := kin a o hk
    rw [la] at e
    cases e
    exact main (fun _ => none) (fun _ => .inl rfl) (.inr ⟨_, us.toArray, _, hk, rfl, rfl, rfl, by rw [List.size_toArray, lu]; exact sz, by simpa using vi⟩) (fun b u z => nomatch (show (none : Option HO) = some u from z)) (fun b z => absurd rfl z) fun z => absurd rfl z
  | none =>
    obtain ⟨Hs, at_, off⟩ : ∃ Hs : Hp, (∀ b, b = a → Hs b = some (HO.frz { cls := .type "list", data := .seq us.toArray } (.lst (ns.map V.int)))) ∧ ∀ b, b ≠ a → Hs b = none :=
      ⟨fun b => if b = a then some (HO.frz { cls := .type "list", data := .seq us.toArray } (.lst (ns.map V.int))) else none, fun b z => if_pos z, fun b z => if_neg z⟩
    refine main Hs (fun b => ?_) (.inl (.inr ⟨_, at_ a rfl⟩)) (fun b u z => ?_) (fun b z => ?_) fun _ => hk
    · by_cases hb : b = a
      · exact .inr ⟨_, _, at_ b hb⟩
      · exact .inl (off b hb)
    · by_cases hb : b = a
      · have q := (at_ b hb).symm.trans z
        cases q
        subst hb
        exact ⟨la, by rw [List.length_map]; exact sz, us, _, vi, la⟩
      · have q := (off b hb).symm.trans z
        cases q
    · by_cases hb : b = a
      · exact hb
      · exact absurd (off b hb) z
end EvS
end
section
set_option Elab.async false
set_option linter.all false
set_option maxRecDepth 100000
set_option maxHeartbeats 1000000
/-! EvAE: the call of a law that makes a lambda: its table of code objects is tracked. -/
namespace EvS
open PySem PySem.Spec PyProof.Rows L2 Ev
theorem law_goT {P : Program} {w : World} {K : PySem.W.Frag} {mg mb : Str → Option Value} {k : Nat} {fa a c T : Addr} {fd : FuncData} {x : Str} {sp : Sp} {s : Shared} {us : List Value} {ns : List Int}
    (kin : K.In s.heap) (gns : s.heap.Ns mainGlobals mg) (bns : s.heap.Ns builtinsNs mb) (bb : ∀ x : Str, x ≠ "__name__" → mb x = bootBuiltins x) (lim : s.heap.NoLimit) (gs : s.gens = #[])
    (tP : s.heap.get? T = some { cls := .none, data := .fields #[] }) (nT : K.lookup T = none) (cd : PySem.W.CodeHd s.heap c T)
    (bmo : ∃ (bm : Addr) (ob : Obj), mg "__builtins__" = some (.ref bm) ∧ bm ≠ builtinsNs ∧ s.heap.get? bm = some ob ∧ ob.cls = .type "module" ∧ ob.dict = some builtinsNs ∧ ob.data = .plain)
    (la : s.heap.get? a = some { cls := .type "list", data := .seq us.toArray }) (ia : IntsAre us ns) (sz : ns.length ≤ sizeLine) (room : Room k callerA)
    (F : ∀ base : Heap, K.In base → base.Ns mainGlobals mg → LamX.TabB base mg c T → FnC P w K mg base k fa fd [x] sp) (bind : ∀ (s : Shared) (u : Value), BindsTo s fd ⟨[u], []⟩ [(x, u)])
    (hs : ∀ H : Hp, H T = some (.tbl #[]) → SqL K H a (ns.map V.int) → sp [.ref a] H (fun v _ => v = .bl true) fun _ _ _ => False) :
    codeAny (model P w) callerA (.call (.ref fa) ⟨[.ref a], []⟩) (fun r s' => r = .ok (.ret (.bool true)) ∧ OldK s.heap s'.heap ∧ s'.os = s.os ∧ AllBare s'.gens) s := by
  have vi := vals_ints ia
  have lu := ia.length
  have aT : a ≠ T := fun z => by
    rw [z, tP] at la
    exact nomatch (show Data.fields #[] = Data.seq us.toArray _ from congrArg Obj.data (Option.some.inj la))
  have main : ∀ H : Hp, H T = some (.tbl #[]) → (∀ b, H b = none ∨ b = T ∨ ∃ o xs, H b = some (.frz o (.lst xs))) → SqL K H a (ns.map V.int) → HOk P w H s.heap → (∀ b, H b ≠ none → b = a ∨ b = T) → (H a ≠ none → K.lookup a = none) →
      codeAny (model P w) callerA (.call (.ref fa) ⟨[.ref a], []⟩) (fun r s' => r = .ok (.ret (.bool true)) ∧ OldK s.heap s'.heap ∧ s'.os = s.os ∧ AllBare s'.gens) s := fun H hT only sq hok onlyA noK => by
    have who : ∀ {b : Addr} {u : HO}, H b = some u → b = a ∨ b = T := fun {b u} q => onlyA b (by rw [q]; exact Option.some_ne_none u)
    have free : ∀ {b : Addr} {o : Obj}, s.heap.get? b = some o → (∀ vs n, o.data ≠ .seq vs n) → o.data ≠ .fields #[] → H b = none := fun {b o} e h1 h2 => by
      cases q : H b with
      | none => rfl
      | some u =>
        rcases who q with z | z
        · rw [z, la] at e; cases e; exact (h1 _ _ rfl).elim
        · rw [z, tP] at e; cases e; exact (h2 rfl).elim
    have nsOf : ∀ {b : Addr} {m : Str → Option Value}, s.heap.Ns b m → (hidT s.heap H).Ns b m := fun {b m} ⟨o, es, ep, e, d, r⟩ =>
      ⟨o, es, ep, hidT_get e (free e (fun vs n z => by rw [d] at z; cases z) fun z => by rw [d] at z; cases z), d, r⟩
    have kb : K.In (hidT s.heap H) := fun b o e => hidT_get (kin b o e) (by
      cases q : H b with
      | none => rfl
      | some u =>
        rcases who q with z | z
        · subst z
          rw [noK (by rw [q]; exact Option.some_ne_none u)] at e; cases e
        · rw [z, nT] at e; cases e)
    have md : L2.Mod K mg (hidT s.heap H) := ⟨kb, nsOf gns, ⟨mb, nsOf bns, bb⟩, lim.elim fun mc h => ⟨mc, nsOf h.1, h.2⟩⟩
    have tb : LamX.TabB (hidT s.heap H) mg c T := by
      refine ⟨?_, ?_, fun z => ?_⟩
      · obtain ⟨o, vs, file, tf, flags, tg, inF, text, tt, e1, r1, r2, r3, r4, r5, r6, r7, r8, hne⟩ := cd
        exact ⟨o, vs, file, tf, flags, tg, inF, text, tt, hidT_get e1 (free e1 (fun vs n z => by rw [r2] at z; cases z) fun z => by rw [r2] at z; cases z; simp at r3), r1, r2, r3, r4, r5, r6, r7, r8, hne⟩
      · obtain ⟨bm, ob, b1, b2, b3, b4, b5, b6⟩ := bmo
        have g1 : bm ≠ mainGlobals := fun q => by
          obtain ⟨o, es, ep, e, hd, _⟩ := gns
          rw [q, e] at b3; cases b3
          rw [hd] at b6; cases b6
        have g2 : bm ≠ T := fun q => by
          rw [q, tP] at b3; cases b3; cases b6
        exact ⟨bm, ob, b1, b2, g1, g2, hidT_get b3 (free b3 (fun vs n z => by rw [b6] at z; cases z) fun z => by rw [b6] at z; cases z), b4, b5, b6⟩
      · obtain ⟨o, es, ep, e, hd, _⟩ := gns
        rw [z, tP] at e; cases e; cases hd
    have env0 : Env0 P w K mg (hidT s.heap H) callerA [] s H := ⟨rfl, md, fun b o e => of_hidT e, Nat.le_of_eq (hidT_size _ _), trivial, fun b hb => absurd (show b ∈ ([] : List Addr) from hb) List.not_mem_nil, hok, .of_eq gs⟩
    have run := (F _ kb (nsOf gns) tb).run [] s H ⟨[.ref a], []⟩ [.ref a] [.ref a] _ _ room env0 (bind s (.ref a)) (.cons rfl .nil) (hs H hT sq)
    refine codeAny_mono run fun r s' h => ?_
    cases r with
    | error e => obtain ⟨_, _, _, _, _, _, _, _, _, _, _, _, z⟩ := h; exact z.elim
    | ok fl =>
      cases fl with
      | ret u =>
        obtain ⟨v, H', os, bare, un, hok', rv, rfl⟩ := h
        cases (show u = Value.bool true from rv)
        have key : ∀ b o, b ≠ T → s.heap.get? b = some o → s'.heap.get? b = some o := fun b o nb e => by
          cases q : H b with
          | none => exact un.keep b o e q (fun z => absurd (show b ∈ ([] : List Addr) from z) List.not_mem_nil) (by simp)
          | some u =>
            rcases only b with z | z | ⟨ob, xs, z⟩
            · rw [q] at z; cases z
            · exact (nb z).elim
            · obtain ⟨g1, _⟩ := hok b _ z
              obtain ⟨g2, _⟩ := hok' b _ (un.frzs b ob _ z)
              rw [e] at g1; cases g1
              exact g2
        obtain ⟨more, hm⟩ : ∃ more : Array Value, s'.heap.get? T = some { cls := .none, data := .fields more } := by
          obtain ⟨more, z⟩ := un.tbls T #[] hT
          exact ⟨_, hok' T _ z⟩
        refine ⟨rfl, ⟨fun b o e => ?_, fun b o e => ?_⟩, os, bare⟩
        · by_cases hb : b = T
          · rw [hb] at e ⊢
            rw [tP] at e; cases e
            exact .inr (.inl ⟨(cd.tab tP).isCodeTable, rfl, #[], more, rfl, by rw [Array.empty_append]; exact hm⟩)
          · exact .inl (key b o hb e)
        · by_cases hb : b = T
          · rw [hb]; exact ⟨_, hm⟩
          · exact ⟨o, key b o hb e⟩
      | next => exact False.elim h
      | brk => exact False.elim h
      | cont => exact False.elim h
  cases hk : K.lookup a with
  | some o =>
    have e := kin a o hk
    rw [la] at e
    cases e
    obtain ⟨Hs, at_, off⟩ : ∃ Hs : Hp, Hs T = some (.tbl #[]) ∧ ∀ b, b ≠ T → Hs b = none := ⟨fun b => if b = T then some (.tbl #[]) else none, if_pos rfl, fun b z => if_neg z⟩
    refine main Hs at_ (fun b => ?_) (.inr ⟨_, us.toArray, _, hk, rfl, rfl, rfl, by rw [List.size_toArray, lu]; exact sz, by simpa using vi⟩) (fun b u z => ?_) (fun b z => ?_) fun z => absurd (off a aT) z
    · by_cases hb : b = T
      · exact .inr (.inl hb)
      · exact .inl (off b hb)
    · by_cases hb : b = T
      · subst hb
        rw [at_] at z; cases z
        exact tP
      · rw [off b hb] at z; cases z
    · by_cases hb : b = T
      · exact .inr hb
      · exact absurd (off b hb) z
  | none =>
    obtain ⟨Hs, at_, at2, off⟩ : ∃ Hs : Hp, Hs T = some (.tbl #[]) ∧ Hs a = some (HO.frz { cls := .type "list", data := .seq us.toArray } (.lst (ns.map V.int))) ∧ ∀ b, b ≠ a → b ≠ T → Hs b = none :=
      ⟨fun b => if b = T then some (.tbl #[]) else if b = a then some (HO.frz { cls := .type "list", data := .seq us.toArray } (.lst (ns.map V.int))) else none, if_pos rfl, (if_neg aT).trans (if_pos rfl), fun b z1 z2 => (if_neg z2).trans (if_neg z1)⟩
    refine main Hs at_ (fun b => ?_) (.inl (.inr ⟨_, at2⟩)) (fun b u z => ?_) (fun b z => ?_) fun _ => hk
    · by_cases hb : b = T
      · exact .inr (.inl hb)
      · by_cases ha : b = a
        · exact .inr (.inr ⟨_, _, by rw [ha]; exact at2⟩)
        · exact .inl (off b ha hb)
    · by_cases hb : b = T
      · subst hb
        rw [at_] at z; cases z
        exact tP
      · by_cases ha : b = a
        · subst ha
          rw [at2] at z; cases z
          exact ⟨la, by rw [List.length_map]; exact sz, us, _, vi, la⟩
        · rw [off b ha hb] at z; cases z
    · by_cases hb : b = T
      · exact .inr hb
      · by_cases ha : b = a
        · exact .inl ha
        · exact absurd (off b ha hb) z
end EvS
end
section
set_option Elab.async false
set_option linter.all false
set_option maxRecDepth 100000
set_option maxHeartbeats 1000000
/-! EvAF: an except clause whose error is kept and asked behind it; the def that hears a lambda. -/
namespace EvS
open PySem PySem.Spec PyProof.Rows L2 Ev
section
variable {X : Cx} {pins : List (Addr × Obj)} {σ : L2.St} {H : Hp} {s : Shared}
theorem kp_on {q : Addr × Obj} {xe : Value → Shared → Prop} (I : Inv (X.suite q.1 (q :: (X.pn ++ pins))) [] σ H s) (ok : X.Ok) : Inv (X.tr (q :: (X.pn ++ pins)) xe) [] σ H s :=
  { ok := ok.toTry _ _, os := I.os, bare := I.bare, base := I.base, loc := I.loc, cell := I.cell, free := I.free, freeC := I.freeC, pin := I.pin, hok := I.hok, len := I.len }
theorem kp_off {q : Addr × Obj} {xe : Value → Shared → Prop} {pn' : List (Addr × Obj)} (I : Inv (X.tr (q :: (X.pn ++ pins)) xe) pn' σ H s) (ok : X.Ok) : Inv X pins σ H s :=
  { ok := ok, os := I.os, bare := I.bare, base := I.base, loc := I.loc, cell := I.cell, free := I.free, freeC := I.freeC, pin := fun p m => I.pin p (List.mem_append.mpr (.inl (List.mem_cons.mpr (.inr m)))), hok := I.hok, len := I.len }
end
/-- what is wished of the body's error, when the clause takes it for sure -/
def wKp (X : Cx) (c : Value) (i : Nat) (ts tr : Addr → Value → Option Addr → TS) (D : Ends) : WX := fun cls d σ H =>
  PySem.W.exmOne X.K cls c = some true ∧ (σ.length = X.N.length → ∀ a, H a = none → ts a cls d { nx := fun σ' H' => tr a cls d D (σ'.set i none) H', rt := fun _ _ => False } (σ.set i (some (.ref a))) H)
section
variable {X : Cx} {x n : Str} {c : Value} {i : Nat} {body suite rest : List Stmt} {b₀ : Stmt} {np pos pos' : Pos} {tb : WX → TS} {ts tr : Addr → Value → Option Addr → TS}
theorem pss_try_keep (hs : X.stack = X.env :: X.outer) (hf : X.env.frame = some X.env.locals) (hN : X.N.Nodup) (hi : X.N[i]? = some n) (hln : X.env.kindOf n = some .local) (hc : Names X x c)
    (hb : ∀ (W : WX) (pn : List (Addr × Obj)) (xe : Value → Shared → Prop), Takes (X.tr pn xe) W → PSs (X.tr pn xe) body (tb W))
    (hsu : ∀ (a : Addr) (oe : Obj) (cls : Value) (d : Option Addr) (pn : List (Addr × Obj)), Zc cls d oe → (∃ vs, oe.data = .fields vs) → PSs (X.suite a ((a, oe) :: pn)) (b₀ :: suite) (ts a cls d))
    (hr : ∀ (a : Addr) (oe : Obj) (cls : Value) (d : Option Addr) (pn : List (Addr × Obj)), Zc cls d oe → (∃ vs, oe.data = .fields vs) → PSs (X.tr ((a, oe) :: pn) X.xe) rest (tr a cls d)) :
    PSs X (.Try body [.ExceptHandler (some (.Name x np)) (some n) (b₀ :: suite) pos'] [] [] pos :: rest) (fun D σ H => tb (wKp X c i ts tr D) { nx := fun _ _ => False, rt := fun _ _ => False } σ H) := by
  refine ⟨fun pins s σ H D I h => ?_⟩
  have ok := I.ok
  have fr : X.A.frames = some (X.env :: X.outer) := by rw [ok.frames, hs]
  have lo : Loc X.env.scope n := .inl hln
  -- behind the whole try: only by the clause
  let P : Flow → Shared → Prop := fun f s1 => f = .next ∧ ∃ a oe cls d σ1 H1, Zc cls d oe ∧ (∃ vs, oe.data = .fields vs) ∧ Inv (X.tr ((a, oe) :: (X.pn ++ pins)) X.xe) [] σ1 H1 s1 ∧ tr a cls d D σ1 H1
  suffices tryP : wpAny (model X.prog X.w) X.A (exec (.Try body [.ExceptHandler (some (.Name x np)) (some n) (b₀ :: suite) pos'] [] [] pos) X.env) P X.xe s by
    refine wpAny_execs_cons (thn tryP fun f s1 q => ?_)
    obtain ⟨e, a, oe, cls, d, σ1, H1, z1, z2, I1, q1⟩ := q
    subst e
    refine thn ((hr a oe cls d (X.pn ++ pins) z1 z2).run [] s1 σ1 H1 D I1 q1) fun g s2 r => ?_
    cases g with
    | ret u => obtain ⟨v, σ2, H2, I2, rv, q2⟩ := r; exact ⟨v, σ2, H2, kp_off I2 ok, rv, q2⟩
    | next => obtain ⟨σ2, H2, I2, q2⟩ := r; exact ⟨σ2, H2, kp_off I2 ok, q2⟩
    | brk => obtain ⟨σ2, H2, I2, q2⟩ := r; exact ⟨σ2, H2, kp_off I2 ok, q2⟩
    | cont => obtain ⟨σ2, H2, I2, q2⟩ := r; exact ⟨σ2, H2, kp_off I2 ok, q2⟩
  refine wpAny_Try_except ?_
  refine wpAny_mono ((hb (wKp X c i ts tr D) (X.pn ++ pins) (fun e s₁ => wpAny (model X.prog X.w) X.A (noteFrame e X.env) (fun _ s₂ => wpAny (model X.prog X.w) X.A (setFlight e none) (fun _ s₃ =>
    wpAny (model X.prog X.w) X.A (handleBy e X.env [.ExceptHandler (some (.Name x np)) (some n) (b₀ :: suite) pos']) P X.xe s₃) X.xe s₂) X.xe s₁) (fun u s' xx => ?_)).run [] s σ H _ (I.toTry _) h) (fun f s1 r => ?_) fun e s1 he => he
  · obtain ⟨a, B, sI, pins', σ', H', cls, d, rfl, J', nb, up, sky, na, os, ag, hm, go⟩ := xx
    have J : Inv X pins σ' H' sI := J'.ofTry ok
    have sky2 : Sky B (X.env :: X.outer) a (Zc cls d) X.env.locals s'.heap := by rw [← hs]; exact sky
    show wpAny (model X.prog X.w) X.A (noteFrame (.ref a) X.env) _ _ _
    refine Sky.land Zc.steady fr hf sky2 fun h3 fl up3 => ?_
    have J3 : Inv X pins σ' H' { s' with heap := h3 } := J.landed nb fl.1 (up.trans up3) os ag
    obtain ⟨o3, vs3, g3, z3, d3⟩ := fl.there
    have away : a ∉ frs (X.env :: X.outer) := fun m => by
      obtain ⟨_, o', e', no⟩ := fl.2.2.1.mem m
      rw [g3] at e'; cases e'
      exact no _ d3
    have a1 : a ≠ X.env.locals := fun z => away (List.mem_filterMap.mpr ⟨X.env, List.mem_cons_self, by rw [hf, z]⟩)
    have a2 : a ∉ X.fs := fun m => by
      obtain ⟨e, he, q⟩ := List.mem_filterMap.mp m
      exact away (List.mem_filterMap.mpr ⟨e, List.mem_cons_of_mem _ he, q⟩)
    have S3 := J3.suite g3 d3 na a1 a2
    refine wpAny_handleBy_cons (codeAny_handlers_test ?_) (by intro q; cases q)
    have ty : PySem.W.Looks (model X.prog X.w) h3 (typeOf (.ref a)) cls := fun _ _ _ _ k q => wpAny_typeOf_ref (k _ _ g3) (by rw [z3.1]; exact q)
    have named : ∀ {Q E : Value → Shared → Prop}, Q c { s' with heap := h3 } → wpAny (model X.prog X.w) (X.A.mark (some (.ref a))) (eval (.Name x np) X.env) Q E { s' with heap := h3 } := fun {Q E} q => by
      obtain ⟨hg, hd, hv⟩ := hc
      rcases hv with hv | ⟨hv, hb2, hn2⟩
      · exact ld_glob (X := X.suite a ((a, o3) :: (X.pn ++ pins))) S3 hg hv q hd
      · exact ld_blt (X := X.suite a ((a, o3) :: (X.pn ++ pins))) S3 hg hv hb2 q hn2 hd
    refine named ((PySem.W.exm_one (M := model X.prog X.w) J3.kIn ty hm).here ?_)
    refine codeAny_handlers_suite_as ?_
    refine HandSPX.lands_againZ fl fun h4 fl4 up4 => ?_
    have J4 : Inv X pins σ' H' { s' with heap := h4 } := J.landed nb fl4.1 ((up.trans up3).trans up4) os ag
    obtain ⟨o4, vs4, g4, z4, d4⟩ := fl4.there
    refine store_ok (X := X.suite a ((a, o4) :: (X.pn ++ pins))) (v := .ref a) (J4.suite g4 d4 na a1 a2) hN hi lo rfl (fun s5 S5 => ?_) (.inr hln)
    refine wpAny_mono ((hsu a o4 cls d (X.pn ++ pins) z4 ⟨_, d4⟩).run [] s5 _ H' _ S5 (go J.len a na)) (fun f s6 r => ?_) fun _ _ z => z.elim
    cases f with
    | next =>
      obtain ⟨σ6, H6, S6, q6⟩ := r
      exact gone_ok (X := X.tr ((a, o4) :: (X.pn ++ pins)) X.xe) (kp_on S6 ok) hN hi hln fun s7 J7 => ⟨rfl, a, o4, cls, d, _, _, z4, ⟨_, d4⟩, J7, q6⟩
    | brk => obtain ⟨_, _, _, z⟩ := r; exact z.elim
    | cont => obtain ⟨_, _, _, z⟩ := r; exact z.elim
    | ret u => obtain ⟨_, _, _, _, _, z⟩ := r; exact (show False from z).elim
  · cases f with
    | next => obtain ⟨_, _, _, z⟩ := r; exact (show False from z).elim
    | brk => obtain ⟨_, _, _, z⟩ := r; exact z.elim
    | cont => obtain ⟨_, _, _, z⟩ := r; exact z.elim
    | ret u => obtain ⟨_, _, _, _, _, z⟩ := r; exact (show False from z).elim
end
theorem call_isKp {X : Cx} {a D : Addr} {oe : Obj} (hp : (a, oe) ∈ X.pn) (C : ExcC X.K D) (hz : Zc (.ref D) none oe) (hf : ∃ vs, oe.data = .fields vs) : CallR X (.builtin "isinstance") (rIsE X.K D a) := by
  intro pins s σ H xs us Q I r h
  obtain ⟨c, cv, b, rfl, hcv, e, q⟩ := h
  obtain ⟨vs, hv⟩ := hf
  rcases r with _ | ⟨r1, _ | ⟨r2, _ | _⟩⟩
  cases r1
  cases hcv _ r2
  have hget := (I.pin _ (List.mem_append.mpr (.inl hp))).1
  obtain ⟨oc, od, oda, osl⟩ := oe
  obtain ⟨h1, h2⟩ := hz
  dsimp only at h1 h2 hv
  subst h1 h2 hv
  have J : PySem.W.InstAt s.heap a { cls := .ref D, dict := none, data := .fields vs, slots := osl } D none := ⟨hget, rfl, rfl, trivial⟩
  exact PySem.W.kia_one (PySem.W.handS_kitx_exc C.hg C.hk C.hs C.hd C.ha C.hn C.ht C.hm) I.kIn J e (fun z => nomatch z) fun tk => ⟨.bl b, H, I.kept (t' := tk) fun _ _ z => z, rfl, q⟩
end EvS
end
section
set_option Elab.async false
set_option linter.all false
set_option maxRecDepth 100000
set_option maxHeartbeats 1000000
/-! EvAG: the def that hears a lambda. -/
namespace EvS
open PySem PySem.Spec PyProof.Rows L2 Ev LamX
def hN : List Str := ["ask", "found", "caught", "error"]
/-- the lambda raises D: the tuple ("ask",) -/
def TTh (D : Addr) : (XK → Hp → VK → Prop) → Hp → VK → Prop := fun tl H Q => ∀ p0, H p0 = none → tl (fun cls d H' => cls = .ref D ∧ d = none ∧ ∀ p, H' p = none → Q (.ref p) (upd H' p (.tup [.str "ask"]))) (upd H p0 (.tup [.non, .non])) fun _ _ => False
theorem pe_nonE {X : Cx} {j : Nat} {pos : Pos} : PE X (.Constant .none j pos) (tC .non) := ⟨fun _ _ _ H _ I h => Constant_none ⟨.non, H, I, rfl, h⟩⟩
theorem pss_dead {X : Cx} {st : List Stmt} : PSs X st fun _ _ _ => False := ⟨fun _ _ _ _ _ _ h => h.elim⟩
theorem pe_dead {X : Cx} {e : Expr} : PE X e fun _ _ _ => False := ⟨fun _ _ _ _ _ _ h => h.elim⟩
theorem ps_isK {X : Cx} {a D : Addr} {oe : Obj} {d : Option Addr} {cls : Value} {z : Addr} {p1 p2 p3 pos : Pos} {y nm : Str} {i : Nat} (hp : (a, oe) ∈ X.pn) (C : ExcC X.K D) (hz : Zc cls d oe) (hf : ∃ vs, oe.data = .fields vs)
    (hi : X.N[i]? = some nm) (hv : Vis X.env.scope nm) (gI : Gl X "isinstance") (mI : X.mg "isinstance" = none) (gy : Gl X y) (my : X.mg y = some (.ref z)) (hd : (nm == ("__debug__" : Str)) = false) (hcd : (nm == ("__classdict__" : Str)) = false) (hy : (y == ("__debug__" : Str)) = false) (e1 : cls = .ref D) (e2 : d = none) :
    PT X (.Call (.Name "isinstance" p1) [.Name nm p2, .Name y p3] [] pos) (tB (tCB (rIsE X.K D a) (tCons (tVar i) (tCons (tC (.ref z)) tNil)))) := by
  subst e1; subst e2
  exact pt_val (pe_callB (call_isKp hp C hz hf) gI mI boot_isinstance (pa_cons (pe_var hi hv hd hcd) (pa_cons (pe_glob gy my rfl hy) pa_nil)))
theorem nn_stores {x y : Str} {px py pt pt2 p p' : Pos} {kt k2 j j' : Nat} {env : PySem.Env} : swappedStores [.Tuple [.Name x px, .Name y py] kt pt] (.Tuple [.Constant .none j p, .Constant .none j' p'] k2 pt2) env = pure none := by
  unfold swappedStores
  have e : ([Expr.Constant Const.none j p, .Constant .none j' p'].all (foldedForSure 8)) = true := rfl
  simp only [e]
  repeat' split
  all_goals first | rfl | (rename_i h4 h5; exact (h4 trivial).elim)
theorem heard_gives {X : Cx} {x q : Str} {sg : Scope} {g D P N M : Addr} {cdg : Value} {j1 j2 j3 j4 j5 j6 j7 j8 : Nat} {b1 b2 b3 : List Stmt} {e1 : Expr}
    {p1 p2 p3 p4 p5 p6 p7 p8 p9 p10 p11 p12 p13 p14 p15 p16 p17 p18 p19 p20 p21 p22 p23 p24 p25 p26 p27 p28 p29 p30 p31 p32 p33 p34 p35 p36 p37 p38 p39 : Pos}
    (hl : ∀ y ∈ hN, sg.names.lookup y = some .local) (hg : ∀ y ∈ (["isinstance", "PlanError", "NoSpan", "TooMany", "NoAsk"] : List Str), sg.names.lookup y = some .globalImplicit)
    (mI : X.mg "isinstance" = none) (mP : X.mg "PlanError" = some (.ref P)) (mN : X.mg "NoSpan" = some (.ref N)) (mM : X.mg "TooMany" = some (.ref M)) (mD : X.mg "NoAsk" = some (.ref D))
    (C : ExcC X.K D) (cP : PySem.W.exmOne X.K (.ref D) (.ref P) = some true) (cN : PySem.W.kitOne X.K (.ref D) (.ref N) = some false) (cM : PySem.W.kitOne X.K (.ref D) (.ref M) = some false) (cD : PySem.W.kitOne X.K (.ref D) (.ref D) = some true) :
    GivesTo X hN x sg g cdg [
      .Assign [.Tuple [.Name "found" p1, .Name "caught" p2] j1 p3] (.Tuple [.Constant .none j2 p4, .Constant .none j3 p5] j4 p6) p7,
      .Try [.Assign [.Name "found" p8] (.Call (.Name "ask" p9) [] [] p10) p11] [.ExceptHandler (some (.Name "PlanError" p12)) (some "error") [.Assign [.Name "caught" p13] (.Name "error" p14) p15] p16] [] [] p17,
      .If (.Call (.Name "isinstance" p18) [.Name "caught" p19, .Name "NoSpan" p20] [] p21) b1 [] p22,
      .If (.Call (.Name "isinstance" p23) [.Name "caught" p24, .Name "TooMany" p25] [] p26) b2 [] p27,
      .Return (some (.IfExp (.Compare (.Name "caught" p28) [.Is] [.Constant .none j5 p29] p30) e1 (.IfExp (.Call (.Name "isinstance" p31) [.Name "caught" p32, .Name "NoAsk" p33] [] p34) (.Tuple [.Constant (.str "ask") j6 p35] j7 p36) e2 p37) p38)) p39] "ask" q (TTh D) := by
  intro f c' s H Q tl act hc h
  have v1 : Vis sg "found" := .inl (hl _ (by decide))
  have v2 : Vis sg "caught" := .inl (hl _ (by decide))
  have v3 : Vis sg "error" := .inl (hl _ (by decide))
  obtain ⟨Z, hZ⟩ : ∃ Z, Z = (cxOf C8.CX0 X.prog X.w X.K X.mg X.base hN x sg g cdg X.A X.stack s H C8.E0).nox := ⟨_, rfl⟩
  have nd : hN.Nodup := by decide
  refine ⟨_, pss_cons (ps_asg (X := (cxOf C8.CX0 X.prog X.w X.K X.mg X.base hN x sg g cdg X.A X.stack s H C8.E0).nox) (pe_tup (pa_cons pe_nonE (pa_cons pe_nonE pa_nil))) (pg_tup rfl (pgs_cons (pg_name (i := 1) nd rfl (.inl (hl _ (by decide)))) (pgs_cons (pg_name (i := 2) nd rfl (.inl (hl _ (by decide)))) pgs_nil))) rfl nn_stores)
    (pss_try_keep (X := (cxOf C8.CX0 X.prog X.w X.K X.mg X.base hN x sg g cdg X.A X.stack s H C8.E0).nox) (c := .ref P) (i := 3)
      (tb := fun W D σ H => ∃ Ech : XK, (∀ cls d σ' H', Ech cls d H' → W cls d σ' H') ∧ σ[0]? = some (some (.ref f)) ∧ H c' = some (CodeO c' q) ∧ tl Ech H fun v H1 => D.nx (σ.set 1 (some v)) H1)
      (ts := fun a cls d => tAsg (tVar 3) (gName 2))
      (tr := fun a cls d D' σ H => cls = .ref D ∧ d = none ∧ σ[2]? = some (some (.ref a)) ∧ ∀ p, H p = none → D'.rt (.ref p) (upd H p (.tup [.str "ask"])))
      rfl rfl nd rfl (hl _ (by decide)) ⟨hg _ (by decide), by decide, .inl mP⟩ (fun W pn xe tk => ?_) (fun a oe cls d pn _ _ => pss_one (ps_set (i := 2) nd rfl (.inl (hl _ (by decide))) (pe_var (i := 3) rfl v3))) (fun a oe cls d pn hz hf => ?_)), ?_⟩
  · refine ⟨fun pins s' σ H' D' I h' => ?_⟩
    obtain ⟨Ech, hW, h1, h2, h3⟩ := h'
    exact (pss_one (ps_set (i := 1) nd rfl (.inl (hl _ (by decide))) (act W pn xe Ech p9 p10 tk hW))).run pins s' σ H' D' I ⟨h1, h2, h3⟩
  · refine ⟨fun pins s' σ H' D' I h' => ?_⟩
    obtain ⟨z1, z2, h2, h3⟩ := h'
    have mem : (a, oe) ∈ (((cxOf C8.CX0 X.prog X.w X.K X.mg X.base hN x sg g cdg X.A X.stack s H C8.E0).nox).tr ((a, oe) :: pn) ((cxOf C8.CX0 X.prog X.w X.K X.mg X.base hN x sg g cdg X.A X.stack s H C8.E0).nox).xe).pn := List.mem_cons_self
    have key := pss_cons (ps_if (pos := p22) (ps_isK (p1 := p18) (p2 := p19) (p3 := p20) (pos := p21) mem C hz hf (i := 2) rfl v2 (hg _ (by decide)) mI (hg "NoSpan" (by decide)) mN (by decide) (by decide) (by decide) z1 z2) (pss_dead (st := b1)) pss_nil)
      (pss_cons (ps_if (pos := p27) (ps_isK (p1 := p23) (p2 := p24) (p3 := p25) (pos := p26) mem C hz hf (i := 2) rfl v2 (hg _ (by decide)) mI (hg "TooMany" (by decide)) mM (by decide) (by decide) (by decide) z1 z2) (pss_dead (st := b2)) pss_nil)
        (pss_one (ps_ret (pos := p39) (pe_ifExp (pos := p38) (pt_cmp (pos := p30) (pc_isN (j := j5) (pos' := p29) (pe_var (pos := p28) (i := 2) rfl v2))) (pe_dead (e := e1))
          (pe_ifExp (pos := p37) (ps_isK (p1 := p31) (p2 := p32) (p3 := p33) (pos := p34) mem C hz hf (i := 2) rfl v2 (hg _ (by decide)) mI (hg "NoAsk" (by decide)) mD (by decide) (by decide) (by decide) z1 z2) (pe_tup (x1 := j7) (pos := p36) (pa_cons (pe_str (x := "ask") (j := j6) (pos := p35)) pa_nil)) (pe_dead (e := e2)))))))
    refine key.run pins s' σ H' D' I ⟨.ref a, h2, .ref N, .ref N, false, rfl, fun u r => r, cN, false, rfl, ?_⟩
    refine (if_neg (by decide)).mpr ⟨.ref a, h2, .ref M, .ref M, false, rfl, fun u r => r, cM, false, rfl, ?_⟩
    refine (if_neg (by decide)).mpr ⟨.ref a, h2, false, rfl, ?_⟩
    refine (if_neg (by decide)).mpr ⟨.ref a, h2, .ref D, .ref D, true, rfl, fun u r => r, cD, true, rfl, ?_⟩
    exact (if_pos rfl).mpr ⟨by decide, h3⟩
  · show tSeq _ _ _ _ _
    refine ⟨by decide, fun p hp => ?_⟩
    refine ⟨p, [.non, .non], rfl, .inl (.inl upd_same), rfl, ?_⟩
    have ne : c' ≠ p := fun z => by rw [z, hp] at hc; cases hc
    refine ⟨_, _, rfl, _, _, rfl, rfl, ?_⟩
    refine ⟨_, fun cls d σ' H' w => ?_, rfl, by rw [upd_ne ne]; exact hc, h p hp⟩
    obtain ⟨z1, z2, w⟩ := w
    subst z1; subst z2
    refine ⟨cP, fun hlen a na => ?_⟩
    have hlen : σ'.length = 4 := hlen
    refine ⟨.ref a, by rw [List.getElem?_set_self (by omega)], ?_⟩
    refine ⟨rfl, rfl, ?_, w⟩
    rw [List.getElem?_set_ne (by decide), List.getElem?_set_self (by rw [List.length_set]; omega)]
end EvS
end
section
set_option Elab.async false
set_option linter.all false
set_option maxRecDepth 100000
set_option maxHeartbeats 1000000
/-! EvAI: a def called with a lambda; what becomes of the law's table. -/
namespace EvS
open PySem PySem.Spec PyProof.Rows L2 Ev LamX
/-- behind the making of a lambda named q -/
structure LExt (q : Str) (H H1 : Hp) : Prop where
  n : ExtN H H1
  t : ∀ b ps, H b = some (.tbl ps) → ∃ more, H1 b = some (.tbl (ps ++ more))
  q : ∀ P, TabS H P q → TabS H1 P q
theorem LExt.refl {q : Str} {H : Hp} : LExt q H H := ⟨ExtN.refl H, fun b ps e => ⟨#[], by simpa using e⟩, fun _ t => t⟩
theorem LExt.grow {q : Str} {H : Hp} {P c : Addr} {ps : Array Value} {pos : Pos} (hP : H P = some (.tbl ps)) (tr : TriplesOk ps.toList) (all : ∀ (pos : Pos) (cv : Value), codeAmong pos ps.toList = some cv → ∃ c, cv = .ref c ∧ H c = some (CodeO c q)) (nC : H c = none) :
    LExt q H (upd (upd H P (.tbl (ps ++ #[rawInt pos.line, rawInt pos.col, .ref c]))) c (CodeO c q)) := by
  have pc : P ≠ c := ne_of_none hP nC
  have stay : ∀ b o, H b = some o → b ≠ P → upd (upd H P (.tbl (ps ++ #[rawInt pos.line, rawInt pos.col, .ref c]))) c (CodeO c q) b = some o := fun b o e nb => by
    rw [upd_ne (ne_of_none e nC), upd_ne nb]; exact e
  have code : ∀ c0, H c0 = some (CodeO c0 q) → upd (upd H P (.tbl (ps ++ #[rawInt pos.line, rawInt pos.col, .ref c]))) c (CodeO c q) c0 = some (CodeO c0 q) := fun c0 e => stay c0 _ e fun z => by
    rw [z, hP] at e; exact codeO_ne ps (Option.some.inj e).symm
  refine ⟨fun b o e no => stay b o e fun z => ?_, fun b qs e => ?_, fun R t => ?_⟩
  · rw [z, hP] at e; exact no ps (Option.some.inj e).symm
  · by_cases hb : b = P
    · subst hb
      rw [hP] at e; cases e
      exact ⟨_, by rw [upd_ne pc, upd_same]⟩
    · exact ⟨#[], by rw [stay b _ e hb]; simp⟩
  · by_cases hb : R = P
    · subst hb
      refine ⟨_, by rw [upd_ne pc, upd_same], by rw [Array.toList_append]; exact PySem.TriplesOk_snoc _ _ _ _ tr, fun p' cv hcv => ?_⟩
      rw [Array.toList_append] at hcv
      rcases among_app _ tr hcv with z | z
      · obtain ⟨c0, r1, r2⟩ := all p' cv z
        exact ⟨c0, r1, code c0 r2⟩
      · exact ⟨c, z, upd_same⟩
    · obtain ⟨qs, k1, k2, k3⟩ := t
      refine ⟨qs, stay R _ k1 hb, k2, fun p' cv hcv => ?_⟩
      obtain ⟨c0, r1, r2⟩ := k3 p' cv hcv
      exact ⟨c0, r1, code c0 r2⟩
section
variable {X : Cx} {pins : List (Addr × Obj)} {σ : L2.St} {H : Hp} {s : Shared}
theorem lam_mk {q : Str} {c P : Addr} {params : Arguments} {body : Expr} {scope : Scope} {pos : Pos} {E Q : Value → Shared → Prop} (hq : X.env.qual ++ "<lambda>" = q) (I : Inv X pins σ H s) (TB : TabB X.base X.mg c P) (hcode : X.env.code = .ref c) (hT : TabS H P q) (hdef : defaultsOf params X.env = ([], []))
    (hfree : ∀ y ∈ scope.names, y.2 = .free → ∃ c, X.env.cells.lookup y.1 = some c)
    (h : ∀ (f c' : Addr) (pm ctv : Value) (H1 : Hp) (s' : Shared), Inv X pins σ H1 s' → LExt q H H1 → s'.heap.get? f = some (PySem.W.kla_obj "<lambda>" q params body scope (cloFrom X.env.cells scope.names []) pm c' ctv) → H1 f = none → f ∉ frs X.stack → H1 c' = some (CodeO c' q) → Q (.ref f) s') :
    wpAny (model X.prog X.w) X.A (eval (.Lambda params body scope pos) X.env) Q E s := by
  subst hq
  obtain ⟨ps, hP, tr, all⟩ := hT
  have there : s.heap.get? P = some { cls := .none, data := .fields ps } := I.hok P _ hP
  have away : ∀ f, s.heap.objs.size ≤ f → f ∉ frs X.stack := fun f le m => by
    rcases List.mem_cons.mp (I.stkSub _ m) with e | e
    · exact Nat.lt_irrefl _ (Nat.lt_of_lt_of_le (show f < s.heap.objs.size by rw [e]; exact I.lt) le)
    · exact I.nofs le e
  refine PySem.W.kla_eval hdef ?_
  cases hc : codeAmong pos ps.toList with
  | some cv =>
    obtain ⟨c', e, known⟩ := all pos cv hc
    subst e
    refine PySem.W.kla_makeFunctionHit (mg := X.mg) (c := c) (P := P) (ps := ps) (closure_ok hfree) I.ok.glob (I.mod.glob.keeps I.bk) hcode (TB.code.keeps I.bk) there tr hc (TB.bm.keeps I.bk) fun ctv h' tk kept size => ?_
    refine h h'.objs.size c' ((X.mg "__name__").getD .none) ctv H _ (I.kept (h' := h'.push (PySem.W.kla_obj "<lambda>" (X.env.qual ++ "<lambda>") params body scope (cloFrom X.env.cells scope.names []) ((X.mg "__name__").getD .none) c' ctv)) (t' := tk) fun b o e => Heap.get?_push_of_some _ (kept b o e)) LExt.refl ?_ ?_ ?_ known
    · exact Heap.get?_push_size _ rfl
    · exact I.hok.fresh size
    · exact away _ size
  | none =>
    refine PySem.W.kla_makeFunction (mg := X.mg) (c := c) (P := P) (ps := ps) (closure_ok hfree) I.ok.glob (I.mod.glob.keeps I.bk) hcode (TB.code.keeps I.bk) there tr hc TB.gP (TB.bm.keeps I.bk) fun c' ctv h' tk kept ge lt rec tab => ?_
    obtain ⟨c2, oc, vs, t, e2, r1, r2, r3⟩ := rec
    cases e2
    have size : s.heap.objs.size ≤ h'.objs.size := Nat.le_trans ge (Nat.le_of_lt lt)
    have nC : H c' = none := I.hok.fresh ge
    refine h h'.objs.size c' ((X.mg "__name__").getD .none) ctv _ _ (inv_table (t' := tk) (more := #[rawInt pos.line, rawInt pos.col, .ref c']) (h' := h'.push (PySem.W.kla_obj "<lambda>" (X.env.qual ++ "<lambda>") params body scope (cloFrom X.env.cells scope.names []) ((X.mg "__name__").getD .none) c' ctv)) I hP
      (fun b o nb e => Heap.get?_push_of_some _ (kept b o nb e)) (Heap.get?_push_of_some _ tab) ge ⟨oc, vs, t, Heap.get?_push_of_some _ r1, r2, r3⟩) (LExt.grow hP tr all nC) ?_ ?_ ?_ upd_same
    · exact Heap.get?_push_size _ rfl
    · rw [upd_ne (Nat.ne_of_gt lt), upd_ne (Nat.ne_of_gt (Nat.lt_of_lt_of_le (Heap.lt_size there) size))]
      exact I.hok.fresh size
    · exact away _ size
/-- the reading of a call with a lambda -/
def tLm (q : Str) (P : Addr) (TT : (XK → Hp → VK → Prop) → Hp → VK → Prop) (t : XK → TE) : TE := fun σ H Q => TabS H P q ∧ ∀ H1, LExt q H H1 → TT (fun E H' Q' => t E σ H' Q') H1 Q
theorem pe_lamE {q : Str} {TT : (XK → Hp → VK → Prop) → Hp → VK → Prop} {x a : Str} {g c P : Addr} {k : Nat} {pg : Arguments} {bg : List Stmt} {sg : Scope} {dV kV doc pm cdv ct oc : Value} {an od : Option Addr} {osl : Array (Option Value)} {Ng : List Str}
    {params : Arguments} {body : Expr} {scope : Scope} {t : XK → TE} {p lpos pos : Pos} (hq : X.env.qual ++ "<lambda>" = q) (hg : Gl X x) (hm : X.mg x = some (.ref g)) (hk : PySem.W.keepIn X.K (.ref g) = true)
    (lk : X.K.lookup g = some ⟨oc, od, .func (PySem.W.fnOf x x pg bg sg dV kV doc pm an cdv ct), osl⟩) (hcg : PySem.W.codeIn X.K cdv x = true) (hb : L2.Binds X.K (PySem.W.fnOf x x pg bg sg dV kV doc pm an cdv ct) [a] []) (Sg : FnScope Ng [a] sg) (hNg : Ng[0]? = some a) (hva : Vis sg a)
    (hG : GivesTo X Ng x sg g cdv bg a q TT) (TB : TabB X.base X.mg c P) (hcode : X.env.code = .ref c) (hr : Room (k + 2) X.A) (L : LamS X.env.scope scope) (hdef : defaultsOf params X.env = ([], []))
    (hbind : ∀ (q : Str) (cl : List (Str × Addr)) (pm cv ctv : Value), bindArgs (PySem.W.kla_fn "<lambda>" q params body scope cl pm cv ctv) ⟨[], []⟩ = pure [])
    (hbody : ∀ (A : Around) (outer : List PySem.Env) (s : Shared) (H : Hp) (E : XK) (f c' : Addr), Room k (A.deeper (lamEnv X scope s.heap.objs.size f c')) → PE (lamCx X A outer s H E scope f c') body (t E))
    (hdb : (x == ("__debug__" : Str)) = false) (hd : (a == ("__debug__" : Str)) = false) (hcd : (a == ("__classdict__" : Str)) = false) :
    PE X (.Call (.Name x p) [.Lambda params body scope lpos] [] pos) (tLm q P TT t) := by
  refine ⟨fun pins s σ H Q I h => ?_⟩
  obtain ⟨hT, h⟩ := h
  refine wpAny_Call_Name_kw (ld_glob I hg hm ?_ hdb)
  refine PySem.W.callWith_K (h₀ := X.base) I.ok.mod.kin hk ?_ rfl rfl
  show wpAny _ _ (spliced ((false, eval (.Lambda params body scope lpos) X.env) :: backTo pos (starEach [] X.env))) _ _ s
  refine Calls.spliced_cons (lam_mk hq I TB hcode hT hdef (L.has I.ok) fun f c' pm' ctv H1 s' I1 le hf n1 n2 known => Calls.spliced_nil ⟨I1.kIn, ?_⟩)
  subst hq
  have go : codeAny (model X.prog X.w) X.A (.call (.ref g) ⟨[.ref f], []⟩) (CR C8.CX0 X.stack X.prog X.w H1 s' Q C8.E0) s' :=
    run_ofS (N := Ng) (ps := [a]) (us := [.ref f]) (vs := [.ref f]) lk hcg Sg hr I1.env0 (hb s' [.ref f] I1.kIn rfl) (.cons rfl .nil) rfl fun hr1 => by
      obtain ⟨u, hu, qu⟩ := hG f c' s' H1 Q (fun E H' Q' => t E σ H' Q') (fun W pn xe E p1 p2 tk hW => pe_act (i := 0) I1 L hf n1 n2 (hbind _ _ _ _ _) tk hW hr1 (fun A outer s H r2 => hbody A outer s H E f c' r2) hNg hva hd hcd) known (h H1 le)
      exact ⟨u, hu.nox, qu⟩
  refine wpAny_call (codeAny_mono go fun r s2 z => ?_)
  cases r with
  | ok fl =>
    cases fl with
    | ret u => exact I1.after z
    | next => exact (show False from z).elim
    | brk => exact (show False from z).elim
    | cont => exact (show False from z).elim
  | error e => exact (show False from z).elim
end
end EvS
end
section
set_option Elab.async false
set_option linter.all false
set_option maxRecDepth 100000
set_option maxHeartbeats 1000000
/-! EvAK: the statement that asks whether the lambda is heard to raise the first class. -/
namespace EvS
open PySem PySem.Spec PyProof.Rows L2 Ev LamX
/-- what is told apart: only a lambda that raises the class 0 -/
def specN (C Cl : Cxt) (eL eC : Ev.E) : MS := fun env h => match ev Cl eL env h with
  | .exc 0 h => (ev C eC env h).s fun v h => (match v with
    | .bl true => .rt (.bl false) h
    | .bl false => .nx env h
    | _ => .bad)
  | _ => .bad
theorem LExt.ext {K : PySem.W.Frag} {N : Nz} {ρ : List Addr} {H H1 : Hp} {h : Hh} (r : RH K N ρ H h) (l : LExt lamQ H H1) : Ext K ρ H ρ H1 where
  pre := ⟨[], by simp⟩
  fresh := fun a q => .inl q
  keep := fun a o q _ t => l.n a o q fun ps z => by subst z; exact t
  tbl := l.t
  tups := fun p ys q => by
    rcases q with (q | ⟨o, q⟩) | q
    · exact .inl (.inl (l.n _ _ q fun ps z => by cases z))
    · exact .inl (.inr ⟨o, l.n _ _ q fun ps z => by cases z⟩)
    · exact .inr q
  shr := fun a m => by
    obtain ⟨ys, q⟩ := r.shr a m
    exact ⟨_, l.n _ _ q fun ps z => by cases z⟩
  tabs := l.q
theorem LExt.rh {K : PySem.W.Frag} {N : Nz} {ρ : List Addr} {H H1 : Hp} {h : Hh} (r : RH K N ρ H h) (l : LExt lamQ H H1) : RH K N ρ H1 h where
  len := r.len
  nd := r.nd
  obj := fun n a xs e1 e2 => by
    obtain ⟨ys, h1, h2⟩ := r.obj n a xs e1 e2
    exact ⟨ys, l.n _ _ h1 (fun ps z => by cases z), RVs.mono (l.ext r) Nle.rfl h2⟩
  trk := fun a q => by
    obtain ⟨o, ho⟩ := r.trk a q
    exact (l.ext r).trk ho
def askE : EV := .tup [.str [97, 115, 107]]
theorem rv_ask {K : PySem.W.Frag} {N : Nz} {ρ : List Addr} {H : Hp} {p : Addr} : RV K N ρ (upd H p (.tup [.str "ask"])) askE (.ref p) := ⟨p, [.str "ask"], rfl, .inl (.inl upd_same), .str "ask", [], rfl, ⟨rfl, by decide⟩, rfl⟩
theorem ne_ask {h : Hh} : opNe askE askE h = okB false h := rfl
theorem spec_ps {X : Cx} {TP : List Addr} {P D : Addr} {W : Nat → Hp → Prop} {C Cl : Cxt} {cls : Nat → Value} {eL eC : Ev.E} {call c2 : Expr} {j j2 k2 : Nat} {p1 p2 p3 p4 p5 p6 p7 : Pos} (hP : P ∈ TP) (hD : cls 0 = .ref D) (units : X.A.units + 64 < cLine)
    (hcall : PE X call (tLm lamQ P (TTh D) fun E => tM X.K (fun c H => E (cls c) none H) true (ev Cl eL))) (hc2 : PT X c2 (tT X.K W true (ev C eC))) :
    PS X (.If (.BoolOp .Or [.Compare call [.NotEq] [.Tuple [.Constant (.str "ask") j p1] k2 p2] p3, c2] p4) [.Return (some (.Constant (.bool false) j2 p5)) p6] [] p7) (tS X.K TP W false (specN C Cl eL eC)) := by
  refine PSi (ps_if (pw_or (pt_cmpR (r2_ne (W := W) units) hcall (pe_tup (pa_cons (pe_str (x := "ask")) pa_nil)) rfl) (pw_or1 hc2)).pt (pss_one (ps_ret pe_bl)) pss_nil) fun D' σ H ⟨N0, ρ0, H0, Ld, N, ρ, env, h, s, q⟩ => ?_
  unfold specN at q
  cases e : ev Cl eL env h with
  | bad => rw [e] at q; exact q.elim
  | ok v h1 => rw [e] at q; exact (show False from q).elim
  | exc c h1 =>
    rw [e] at q
    cases c with
    | succ c => exact (show False from q).elim
    | zero =>
      have q : outS X.K TP W false N0 ρ0 H0 Ld ((ev C eC env h1).s fun v h => (match v with
        | .bl true => .rt (.bl false) h
        | .bl false => .nx env h
        | _ => .bad)) D' := q
      refine ⟨s.ext.tabs P (s.tab P hP), fun H1 le p0 hp0 => ?_⟩
      have r1 := le.rh s.se.rh
      have e1 : Ext X.K ρ H ρ (upd H1 p0 (.tup [.non, .non])) := (le.ext s.se.rh).trans (r1.newX hp0)
      refine ⟨N, ρ, env, h, s.se.mono e1 (r1.new hp0), fun _ => s.unl, ?_⟩
      rw [e]
      refine fun ρ1 H2 e2 r2 => ⟨hD, rfl, fun p hp => ?_⟩
      refine ⟨by decide, fun p' hp' => ?_⟩
      have r3 := r2.new (o := .tup [.str "ask"]) hp
      have r4 := r3.new (o := .tup [.str "ask"]) hp'
      have e4 : Ext X.K ρ H ρ1 (upd (upd H2 p (.tup [.str "ask"])) p' (.tup [.str "ask"])) := (e1.trans e2).trans ((r2.newX hp).trans (r3.newX hp'))
      refine ⟨N, ρ1, h1, askE, askE, r4, RV.mono (r3.newX hp') Nle.rfl rv_ask, rv_ask, ?_⟩
      rw [ne_ask]
      intro ρ2 H3 e5 r5 x rx
      have s3 := s.mono (e4.trans e5) r5
      refine ⟨false, rx, ?_⟩
      refine (if_neg (by decide)).mpr ?_
      refine sT s3 q (fun v h z => by cases v <;> first | rfl | exact (z _ rfl).elim) fun b h2 ρ3 H4 s4 q4 => ?_
      cases b with
      | true => exact iteT (q4 ρ3 H4 (.bl false) s4.ext s4.rh0 rfl fun z => by cases z)
      | false => exact iteF (q4 N ρ3 σ H4 s4)
end EvS
end
section
set_option Elab.async false
set_option linter.all false
set_option maxRecDepth 100000
set_option maxHeartbeats 1000000
/-! EvAL: the special statement, in the law's own context. -/
namespace EvS
open PySem PySem.Spec PyProof.Rows L2 Ev LamX
def emptyB (p : Arguments) : Bool := match p with
  | ⟨[], [], none, [], [], none, []⟩ => true
  | _ => false
/-- the statement «if _law_heard(lambda: eL) != ("ask",) or eC: return False» -/
def spB2 (G : Gs) (sc : Scope) (eL eC : Ev.E) (st : Stmt) : Bool := match st with
  | .If (.BoolOp .Or [.Compare (.Call (.Name f _) [.Lambda params body scope _] [] _) [.NotEq] [.Tuple [.Constant (.str a) _ _] _ _] _, c2] _) [.Return (some (.Constant (.bool r) _ _)) _] [] _ =>
    (f == ("_law_heard" : Str)) && (a == ("ask" : Str)) && !r && emptyB params && lamSB sc scope && chkE { G with rep := false } eL scope true body && chkE G eC sc true c2
  | _ => false
theorem sp_of {M : Md} {cls : Nat → Value} {G : Gs} {P : Program} {w : World} {K : PySem.W.Frag} {mg : Str → Option Value} {base : Heap} (F : MF M cls G K w mg) {k2 : Nat} {eL eC : Ev.E} {d : DD} {ad : Addr} {fd : FuncData} {TP : List Addr} {T c D g : Addr}
    {pg : Arguments} {bg : List Stmt} {sg : Scope} {dV kV doc pm cdvH ct oc : Value} {an od : Option Addr} {osl : Array (Option Value)} (S : FnScope d.N d.ps (defScope d.st)) (hT : T ∈ TP) (hD : cls 0 = .ref D) (TB : TabB base mg c T)
    (hc : ∀ kV doc pm an cdv ct, fd = PySem.W.fnOf d.x d.qual (defArgs d.st) (defBody d.st) (defScope d.st) .none kV doc pm an cdv ct → cdv = .ref c) (hq : (d.qual ++ ".<locals>.") ++ "<lambda>" = lamQ)
    (hgl : mg "_law_heard" = some (.ref g)) (hk : PySem.W.keepIn K (.ref g) = true) (lk : K.lookup g = some ⟨oc, od, .func (PySem.W.fnOf "_law_heard" "_law_heard" pg bg sg dV kV doc pm an cdvH ct), osl⟩) (hcg : PySem.W.codeIn K cdvH "_law_heard" = true)
    (hb : L2.Binds K (PySem.W.fnOf "_law_heard" "_law_heard" pg bg sg dV kV doc pm an cdvH ct) ["ask"] []) (Sg : FnScope hN ["ask"] sg) (hva : Vis sg "ask") (hG : ∀ X : Cx, X.K = K → X.mg = mg → GivesTo X hN "_law_heard" sg g cdvH bg "ask" lamQ (TTh D))
    (hlk : (defScope d.st).names.lookup ("_law_heard" : Str) = some NameKind.globalImplicit) (spB : Nat → Stmt → Bool) (hs : ∀ n st, spB n st = true → spB2 { G with N := d.N, rep := true, spB := fun _ _ => false } (defScope d.st) eL eC st = true)
    (cdv : Value) (outer : List PySem.Env) (s : Shared) (H : Hp) (E : XK) (hfd : ∃ kV doc pm an ct, fd = PySem.W.fnOf d.x d.qual (defArgs d.st) (defBody d.st) (defScope d.st) .none kV doc pm an cdv ct)
    (X1 : XF (M.cx (k2 + 2)) cls { G with N := d.N, rep := true, spB := spB } (cxOf (L2.CX P w) P w K mg base d.N d.qual (defScope d.st) ad cdv callerA outer s H E))
    (tk : Takes (cxOf (L2.CX P w) P w K mg base d.N d.qual (defScope d.st) ad cdv callerA outer s H E) (wx cls fun c H => E (cls c) none H))
    (hr : Room (k2 + 2) (callerA.deeper (envOfC d.qual (defScope d.st) s.heap.objs.size ad cdv))) (n : Nat) (st : Stmt) (h : spB n st = true) :
    PS (cxOf (L2.CX P w) P w K mg base d.N d.qual (defScope d.st) ad cdv callerA outer s H E) st (tS K TP (fun c H => E (cls c) none H) false (specN (M.cx (k2 + 2)) (M.cx k2) eL eC)) := by
  have h := hs n st h
  unfold spB2 at h
  split at h
  case h_2 => cases h
  rename_i f pf params body scope pl pc a ja pa kt pt pcm c2 pbo r jr pr pret pif st0
  simp only [Bool.and_eq_true, Bool.not_eq_true', beq_iff_eq] at h
  obtain ⟨⟨⟨⟨⟨⟨h1, h2⟩, h3⟩, h4⟩, h5⟩, h6⟩, h7⟩ := h
  subst h1; subst h2; subst h3
  unfold emptyB at h4
  split at h4
  case h_2 => cases h4
  obtain ⟨kV', doc', pm', an', ct', hfd⟩ := hfd
  have hcode := hc _ _ _ _ _ _ hfd
  have X0 : XF (M.cx (k2 + 2)) cls { G with N := d.N, rep := true, spB := fun _ _ => false } (cxOf (L2.CX P w) P w K mg base d.N d.qual (defScope d.st) ad cdv callerA outer s H E) := ⟨X1.calm, X1.hN, X1.nd, X1.units, X1.fn, X1.gl, X1.dc, X1.bl, X1.rp⟩
  have units : (callerA.deeper (envOfC d.qual (defScope d.st) s.heap.objs.size ad cdv)).units + 64 < cLine := hr.units
  refine spec_ps (X := cxOf (L2.CX P w) P w K mg base d.N d.qual (defScope d.st) ad cdv callerA outer s H E) hT hD units ?_ (chkE_ok eC X0 tk rfl h7).2
  refine pe_lamE (X := cxOf (L2.CX P w) P w K mg base d.N d.qual (defScope d.st) ad cdv callerA outer s H E) (k := k2) (c := c) (P := T) (Ng := hN) (a := "ask") hq hlk hgl hk lk hcg hb Sg rfl hva (hG _ rfl rfl) TB hcode hr (lamS_by h5) rfl (fun _ _ _ _ _ => rfl) (fun A outer' s' H' E' f c' hr2 => ?_) (by decide) (by decide) (by decide)
  have tk2 : Takes (lamCx (cxOf (L2.CX P w) P w K mg base d.N d.qual (defScope d.st) ad cdv callerA outer s H E) A outer' s' H' E' scope f c') (wx cls fun c H => E' (cls c) none H) := by
    refine (takes_of (X := lamCx (cxOf (L2.CX P w) P w K mg base d.N d.qual (defScope d.st) ad cdv callerA outer s H E) A outer' s' H' E' scope f c') (E := E') rfl rfl rfl rfl).imp fun c dd σ H' z => ?_
    obtain ⟨kk, rfl, rfl, z⟩ := z
    exact z
  have XL : XF (M.cx k2) cls { G with N := d.N, rep := false, spB := fun _ _ => false } (lamCx (cxOf (L2.CX P w) P w K mg base d.N d.qual (defScope d.st) ad cdv callerA outer s H E) A outer' s' H' E' scope f c') := by
    refine ⟨rfl, rfl, S.nd, ?_, fun x f np fr e => ?_, fun x g e => ?_, fun x g e => ?_, F.bl, fun z => by cases z⟩
    · have := hr2.un
      show (A.deeper _).units + 65 < cLine
      omega
    · obtain ⟨d', ad', fd', q1, q2, q3, q4, q5, q6⟩ := F.fn x f np fr e
      subst q2; subst q3
      exact ⟨k2, ad', fd', d'.ps, fn_at F k2 f d' ad' fd' q1 q4, hr2, q5, q4.kp, q6⟩
    · rw [cx_glob]; exact F.gl x g e
    · rw [cx_dct]; exact ⟨F.dc x g e⟩
  exact (chkE_ok eL XL tk2 rfl h6).1
end EvS
end
section
set_option maxRecDepth 100000
namespace K64
open Ev
/-- is_whole: thing=0 -/
def f_is_whole : Df := ⟨1, 1, (.cons (.ret (.and_ (.bi (.isinst .int) (.var 0)) (.not_ (.bi (.isinst .bool) (.var 0)))))
  .nil), false⟩
def n_is_whole : List String := ["thing"]
def p_is_whole : Nat := 1
/-- is_text: thing=0 sign=1 -/
def f_is_text : Df := ⟨1, 2, (.cons (.ite (.not_ (.bi (.isinst .str) (.var 0))) (.cons (.ret (.bl false))
  .nil) .nil)
  (.cons (.for_ (.nm 1) (.of (.var 0)) (.cons (.ite (.not_ (.chain (.str [32]) .le (.var 1) .le (.str [126]))) (.cons (.ret (.bl false))
  .nil) .nil)
  .nil))
  (.cons (.ret (.bl true))
  .nil))), false⟩
def n_is_text : List String := ["thing", "sign"]
def p_is_text : Nat := 1
/-- is_word: thing=0 sign=1 -/
def f_is_word : Df := ⟨1, 2, (.cons (.ite (.or_ (.not_ (.bi (.isinst .str) (.var 0))) (.not_ (.chain (.int 1) .le (.bi .len (.var 0)) .le (.glob 3)))) (.cons (.ret (.bl false))
  .nil) .nil)
  (.cons (.for_ (.nm 1) (.of (.var 0)) (.cons (.ite (.cmp .notin (.var 1) (.glob 2)) (.cons (.ret (.bl false))
  .nil) .nil)
  .nil))
  (.cons (.ret (.bl true))
  .nil))), false⟩
def n_is_word : List String := ["thing", "sign"]
def p_is_word : Nat := 1
/-- table_named: frame=0 name=1 table=2 -/
def f_table_named : Df := ⟨2, 3, (.cons (.for_ (.nm 2) (.of (.idx (.var 0) (.int 0))) (.cons (.ite (.cmp .eq (.idx (.var 2) (.int 0)) (.var 1)) (.cons (.ret (.var 2))
  .nil) .nil)
  .nil))
  (.cons (.ret .non)
  .nil)), false⟩
def n_table_named : List String := ["frame", "name", "table"]
def p_table_named : Nat := 2
/-- is_name: thing=0 parts=1 part=2 -/
def f_is_name : Df := ⟨1, 3, (.cons (.ite (.not_ (.bi (.isinst .str) (.var 0))) (.cons (.ret (.bl false))
  .nil) .nil)
  (.cons (.asg (.nm 1) (.split (.var 0) 46))
  (.cons (.ret (.and_ (.cmp .lt (.bi .len (.var 1)) (.int 3)) (.bi .all (.comp (.nm 2) [2] (.of (.var 1)) (.bl true) (.call 2 (.cons (.var 2) .nil))))))
  .nil))), false⟩
def n_is_name : List String := ["thing", "parts", "part"]
def p_is_name : Nat := 1
/-- plain_kind: one=0 -/
def f_plain_kind : Df := ⟨1, 1, (.cons (.ite (.and_ (.cmp .eq (.idx (.var 0) (.int 0)) (.str [110, 117, 109, 98, 101, 114])) (.call 0 (.cons (.idx (.var 0) (.int 1)) .nil))) (.cons (.ret (.tup (.cons (.glob 0) (.cons (.bl false) .nil))))
  .nil) .nil)
  (.cons (.ite (.and_ (.cmp .eq (.idx (.var 0) (.int 0)) (.str [116, 101, 120, 116])) (.call 1 (.cons (.idx (.var 0) (.int 1)) .nil))) (.cons (.ret (.tup (.cons (.glob 1) (.cons (.bl false) .nil))))
  .nil) .nil)
  (.cons (.ite (.and_ (.cmp .eq (.idx (.var 0) (.int 0)) (.str [110, 111, 116, 104, 105, 110, 103])) (.and_ (.bi (.isinst .str) (.idx (.var 0) (.int 1))) (.cmp .in_ (.idx (.var 0) (.int 1)) (.tup (.cons (.glob 0) (.cons (.glob 1) .nil)))))) (.cons (.ret (.tup (.cons (.idx (.var 0) (.int 1)) (.cons (.bl true) .nil))))
  .nil) .nil)
  (.cons (.ret .non)
  .nil)))), false⟩
def n_plain_kind : List String := ["one"]
def p_plain_kind : Nat := 1
/-- kind_in: one=0 kinds=1 left=2 right=3 -/
def f_kind_in : Df := ⟨2, 4, (.cons (.ite (.or_ (.not_ (.bi (.isinst .tuple) (.var 0))) (.or_ (.cmp .lt (.bi .len (.var 0)) (.int 2)) (.not_ (.bi (.isinst .str) (.idx (.var 0) (.int 0)))))) (.cons (.ret .non)
  .nil) .nil)
  (.cons (.ite (.and_ (.cmp .eq (.bi .len (.var 0)) (.int 2)) (.cmp .eq (.idx (.var 0) (.int 0)) (.str [99, 111, 108, 117, 109, 110]))) (.cons (.ite (.bi (.isinst .str) (.idx (.var 0) (.int 1))) (.cons (.ret (.get (.var 1) (.idx (.var 0) (.int 1))))
  .nil) .nil)
  (.cons (.ret .non)
  .nil)) .nil)
  (.cons (.ite (.cmp .eq (.bi .len (.var 0)) (.int 2)) (.cons (.ret (.call 5 (.cons (.var 0) .nil)))
  .nil) .nil)
  (.cons (.ite (.or_ (.cmp .ne (.bi .len (.var 0)) (.int 3)) (.cmp .notin (.idx (.var 0) (.int 0)) (.glob 4))) (.cons (.ret .non)
  .nil) .nil)
  (.cons (.asg (.nm 2) (.call 6 (.cons (.idx (.var 0) (.int 1)) (.cons (.var 1) .nil))))
  (.cons (.asg (.nm 3) (.call 6 (.cons (.idx (.var 0) (.int 2)) (.cons (.var 1) .nil))))
  (.cons (.ite (.or_ (.cmp .is_ (.var 2) .non) (.or_ (.cmp .is_ (.var 3) .non) (.or_ (.cmp .ne (.idx (.var 2) (.int 0)) (.glob 0)) (.cmp .ne (.idx (.var 3) (.int 0)) (.glob 0))))) (.cons (.ret .non)
  .nil) .nil)
  (.cons (.ret (.tup (.cons (.glob 0) (.cons (.or_ (.idx (.var 2) (.int 1)) (.idx (.var 3) (.int 1))) .nil))))
  .nil)))))))), false⟩
def n_kind_in : List String := ["one", "kinds", "left", "right"]
def p_kind_in : Nat := 2
/-- need: truth=0 -/
def f_need : Df := ⟨1, 1, (.cons (.ite (.not_ (.var 0)) (.cons (.raise_ 0)
  .nil) .nil)
  .nil), false⟩
def n_need : List String := ["truth"]
def p_need : Nat := 1
/-- kinds_of: some=0 kinds=1 name=2 kind=3 maybe=4 -/
def f_kinds_of : Df := ⟨1, 5, (.cons (.own 1 .dnew)
  (.cons (.for_ (.tup [(.nm 2), (.nm 3), (.nm 4)]) (.of (.var 0)) (.cons (.setO 1 (.var 2) (.tup (.cons (.var 3) (.cons (.var 4) .nil))))
  .nil))
  (.cons (.retOwn 1)
  .nil))), true⟩
def n_kinds_of : List String := ["some", "kinds", "name", "kind", "maybe"]
def p_kinds_of : Nat := 1
/-- need_compared: cond=0 kinds=1 one=2 other=3 -/
def f_need_compared : Df := ⟨2, 4, (.cons (.asg (.nm 2) (.call 6 (.cons (.idx (.var 0) (.int 1)) (.cons (.var 1) .nil))))
  (.cons (.asg (.nm 3) (.call 6 (.cons (.idx (.var 0) (.int 2)) (.cons (.var 1) .nil))))
  (.cons (.ex (.call 7 (.cons (.and_ (.cmp .isnot (.var 2) .non) (.and_ (.cmp .isnot (.var 3) .non) (.cmp .eq (.idx (.var 2) (.int 0)) (.idx (.var 3) (.int 0))))) .nil)))
  .nil))), false⟩
def n_need_compared : List String := ["cond", "kinds", "one", "other"]
def p_need_compared : Nat := 2
/-- need_cond: frame=0 cond=1 kinds=2 part=3 inner=4 name=5 -/
def f_need_cond : Df := ⟨3, 6, (.cons (.ex (.call 7 (.cons (.and_ (.bi (.isinst .tuple) (.var 1)) (.and_ (.cmp .ne (.var 1) (.tup .nil)) (.bi (.isinst .str) (.idx (.var 1) (.int 0))))) .nil)))
  (.cons (.ex (.call 7 (.cons (.and_ (.inG (.idx (.var 1) (.int 0)) 1) (.cmp .eq (.bi .len (.var 1)) (.idxG 1 (.idx (.var 1) (.int 0))))) .nil)))
  (.cons (.ite (.cmp .in_ (.idx (.var 1) (.int 0)) (.tup (.cons (.str [105, 115]) (.cons (.str [108, 101, 115, 115]) .nil)))) (.cons (.ex (.call 9 (.cons (.var 1) (.cons (.var 2) .nil))))
  .nil) .nil)
  (.cons (.ite (.cmp .eq (.idx (.var 1) (.int 0)) (.str [105, 115, 110, 111, 116, 104, 105, 110, 103])) (.cons (.ex (.call 7 (.cons (.cmp .isnot (.call 6 (.cons (.idx (.var 1) (.int 1)) (.cons (.var 2) .nil))) .non) .nil)))
  .nil) .nil)
  (.cons (.ite (.cmp .in_ (.idx (.var 1) (.int 0)) (.tup (.cons (.str [110, 111, 116]) (.cons (.str [98, 111, 116, 104]) (.cons (.str [101, 105, 116, 104, 101, 114]) .nil))))) (.cons (.for_ (.nm 3) (.of (.cut (.var 1) (.so (.int 1)) .no)) (.cons (.ex (.call 10 (.cons (.var 0) (.cons (.var 3) (.cons (.var 2) .nil)))))
  .nil))
  .nil) .nil)
  (.cons (.ite (.cmp .eq (.idx (.var 1) (.int 0)) (.str [115, 111, 109, 101])) (.cons (.own 4 (.call 8 (.cons (.call 21 (.cons (.var 0) (.cons (.idx (.var 1) (.int 1)) .nil))) .nil)))
  (.cons (.ex (.call 7 (.cons (.bi .all (.comp (.nm 5) [5] (.keysO 4) (.bl true) (.cmp .notin (.var 5) (.var 2)))) .nil)))
  (.cons (.upd 4 (.var 2))
  (.cons (.freeze 4)
  (.cons (.ex (.call 10 (.cons (.var 0) (.cons (.idx (.var 1) (.int 2)) (.cons (.var 4) .nil)))))
  .nil))))) .nil)
  .nil)))))), false⟩
def n_need_cond : List String := ["frame", "cond", "kinds", "part", "inner", "name"]
def p_need_cond : Nat := 3
/-- of_table: frame=0 ask=1 table=2 name=3 kind=4 maybe=5 -/
def f_of_table : Df := ⟨2, 6, (.cons (.asg (.nm 2) (.call 3 (.cons (.var 0) (.cons (.idx (.var 1) (.int 1)) .nil))))
  (.cons (.ex (.call 7 (.cons (.and_ (.cmp .isnot (.var 2) .non) (.call 2 (.cons (.idx (.var 1) (.int 2)) .nil))) .nil)))
  (.cons (.ret (.comp (.tup [(.nm 3), (.nm 4), (.nm 5)]) [3, 4, 5] (.of (.idx (.var 2) (.int 1))) (.bl true) (.tup (.cons (.op .add (.op .add (.idx (.var 1) (.int 2)) (.str [46])) (.var 3)) (.cons (.var 4) (.cons (.var 5) .nil))))))
  .nil))), false⟩
def n_of_table : List String := ["frame", "ask", "table", "name", "kind", "maybe"]
def p_of_table : Nat := 2
/-- of_show: frame=0 ask=1 kinds=2 found=3 pair=4 kind=5 -/
def f_of_show : Df := ⟨2, 6, (.cons (.asg (.nm 2) (.call 8 (.cons (.call 21 (.cons (.var 0) (.cons (.idx (.var 1) (.int 1)) .nil))) .nil)))
  (.cons (.ex (.call 7 (.cons (.and_ (.bi (.isinst .tuple) (.idx (.var 1) (.int 2))) (.cmp .ne (.idx (.var 1) (.int 2)) (.tup .nil))) .nil)))
  (.cons (.own 3 (.lst .nil))
  (.cons (.for_ (.nm 4) (.of (.idx (.var 1) (.int 2))) (.cons (.ex (.call 7 (.cons (.and_ (.bi (.isinst .tuple) (.var 4)) (.and_ (.cmp .eq (.bi .len (.var 4)) (.int 2)) (.call 4 (.cons (.idx (.var 4) (.int 0)) .nil)))) .nil)))
  (.cons (.asg (.nm 5) (.call 6 (.cons (.idx (.var 4) (.int 1)) (.cons (.var 2) .nil))))
  (.cons (.ex (.call 7 (.cons (.cmp .isnot (.var 5) .non) .nil)))
  (.cons (.app 3 (.tup (.cons (.idx (.var 4) (.int 0)) (.cons (.idx (.var 5) (.int 0)) (.cons (.idx (.var 5) (.int 1)) .nil)))))
  .nil)))))
  (.cons (.freeze 3)
  (.cons (.ex (.call 7 (.cons (.cmp .eq (.bi .len (.call 8 (.cons (.var 3) .nil))) (.bi .len (.var 3))) .nil)))
  (.cons (.ret (.var 3))
  .nil))))))), false⟩
def n_of_show : List String := ["frame", "ask", "kinds", "found", "pair", "kind"]
def p_of_show : Nat := 2
/-- of_both: frame=0 ask=1 mine=2 yours=3 kinds=4 name=5 kind=6 maybe=7 -/
def f_of_both : Df := ⟨2, 8, (.cons (.asg (.nm 2) (.call 21 (.cons (.var 0) (.cons (.idx (.var 1) (.int 1)) .nil))))
  (.cons (.asg (.nm 3) (.call 21 (.cons (.var 0) (.cons (.idx (.var 1) (.int 2)) .nil))))
  (.cons (.asg (.nm 4) (.call 8 (.cons (.op .add (.var 2) (.var 3)) .nil)))
  (.cons (.ex (.call 7 (.cons (.cmp .eq (.bi .len (.var 4)) (.op .add (.bi .len (.var 2)) (.bi .len (.var 3)))) .nil)))
  (.cons (.ex (.call 10 (.cons (.var 0) (.cons (.idx (.var 1) (.int 3)) (.cons (.var 4) .nil)))))
  (.cons (.ite (.cmp .in_ (.idx (.var 1) (.int 0)) (.tup (.cons (.str [104, 97, 108, 102]) (.cons (.str [108, 97, 99, 107]) .nil)))) (.cons (.ret (.var 2))
  .nil) .nil)
  (.cons (.ite (.cmp .eq (.idx (.var 1) (.int 0)) (.str [108, 101, 102, 116])) (.cons (.ret (.op .add (.var 2) (.comp (.tup [(.nm 5), (.nm 6), (.nm 7)]) [5, 6, 7] (.of (.var 3)) (.bl true) (.tup (.cons (.var 5) (.cons (.var 6) (.cons (.bl true) .nil)))))))
  .nil) .nil)
  (.cons (.ret (.op .add (.var 2) (.var 3)))
  .nil)))))))), false⟩
def n_of_both : List String := ["frame", "ask", "mine", "yours", "kinds", "name", "kind", "maybe"]
def p_of_both : Nat := 2
/-- of_tell: tell=0 kinds=1 kind=2 maybe=3 -/
def f_of_tell : Df := ⟨2, 4, (.cons (.ex (.call 7 (.cons (.and_ (.bi (.isinst .tuple) (.var 0)) (.and_ (.cmp .eq (.bi .len (.var 0)) (.int 3)) (.and_ (.call 4 (.cons (.idx (.var 0) (.int 0)) .nil)) (.bi (.isinst .str) (.idx (.var 0) (.int 1)))))) .nil)))
  (.cons (.ite (.cmp .eq (.idx (.var 0) (.int 1)) (.str [99, 111, 117, 110, 116])) (.cons (.ex (.call 7 (.cons (.cmp .is_ (.idx (.var 0) (.int 2)) .non) .nil)))
  (.cons (.ret (.tup (.cons (.idx (.var 0) (.int 0)) (.cons (.glob 0) (.cons (.bl false) .nil)))))
  .nil)) .nil)
  (.cons (.ex (.call 7 (.cons (.and_ (.cmp .in_ (.idx (.var 0) (.int 1)) (.tup (.cons (.str [115, 117, 109]) (.cons (.str [108, 101, 97, 115, 116]) (.cons (.str [103, 114, 101, 97, 116, 101, 115, 116]) .nil))))) (.and_ (.bi (.isinst .str) (.idx (.var 0) (.int 2))) (.cmp .in_ (.idx (.var 0) (.int 2)) (.var 1)))) .nil)))
  (.cons (.asg (.tup [(.nm 2), (.nm 3)]) (.idx (.var 1) (.idx (.var 0) (.int 2))))
  (.cons (.ex (.call 7 (.cons (.or_ (.cmp .ne (.idx (.var 0) (.int 1)) (.str [115, 117, 109])) (.cmp .eq (.var 2) (.glob 0))) .nil)))
  (.cons (.ret (.tup (.cons (.idx (.var 0) (.int 0)) (.cons (.var 2) (.cons (.var 3) .nil)))))
  .nil)))))), false⟩
def n_of_tell : List String := ["tell", "kinds", "kind", "maybe"]
def p_of_tell : Nat := 2
/-- of_group: frame=0 ask=1 kinds=2 found=3 name=4 tell=5 -/
def f_of_group : Df := ⟨2, 6, (.cons (.asg (.nm 2) (.call 8 (.cons (.call 21 (.cons (.var 0) (.cons (.idx (.var 1) (.int 1)) .nil))) .nil)))
  (.cons (.ex (.call 7 (.cons (.and_ (.bi (.isinst .tuple) (.idx (.var 1) (.int 2))) (.and_ (.bi (.isinst .tuple) (.idx (.var 1) (.int 3))) (.cmp .ne (.op .add (.idx (.var 1) (.int 2)) (.idx (.var 1) (.int 3))) (.tup .nil)))) .nil)))
  (.cons (.own 3 (.lst .nil))
  (.cons (.for_ (.nm 4) (.of (.idx (.var 1) (.int 2))) (.cons (.ex (.call 7 (.cons (.and_ (.bi (.isinst .str) (.var 4)) (.cmp .in_ (.var 4) (.var 2))) .nil)))
  (.cons (.app 3 (.tup (.cons (.var 4) (.cons (.idx (.idx (.var 2) (.var 4)) (.int 0)) (.cons (.idx (.idx (.var 2) (.var 4)) (.int 1)) .nil)))))
  .nil)))
  (.cons (.for_ (.nm 5) (.of (.idx (.var 1) (.int 3))) (.cons (.app 3 (.call 14 (.cons (.var 5) (.cons (.var 2) .nil))))
  .nil))
  (.cons (.freeze 3)
  (.cons (.ex (.call 7 (.cons (.cmp .eq (.bi .len (.call 8 (.cons (.var 3) .nil))) (.bi .len (.var 3))) .nil)))
  (.cons (.ret (.var 3))
  .nil)))))))), false⟩
def n_of_group : List String := ["frame", "ask", "kinds", "found", "name", "tell"]
def p_of_group : Nat := 2
/-- of_add: frame=0 ask=1 mine=2 yours=3 one=4 other=5 column=6 -/
def f_of_add : Df := ⟨2, 7, (.cons (.asg (.nm 2) (.call 21 (.cons (.var 0) (.cons (.idx (.var 1) (.int 1)) .nil))))
  (.cons (.asg (.nm 3) (.call 21 (.cons (.var 0) (.cons (.idx (.var 1) (.int 2)) .nil))))
  (.cons (.ex (.call 7 (.cons (.cmp .eq (.comp (.nm 6) [6] (.of (.var 2)) (.bl true) (.cut (.var 6) .no (.so (.int 2)))) (.comp (.nm 6) [6] (.of (.var 3)) (.bl true) (.cut (.var 6) .no (.so (.int 2))))) .nil)))
  (.cons (.ret (.comp (.tup [(.nm 4), (.nm 5)]) [4, 5] (.zip (.var 2) (.var 3)) (.bl true) (.tup (.cons (.idx (.var 4) (.int 0)) (.cons (.idx (.var 4) (.int 1)) (.cons (.or_ (.idx (.var 4) (.int 2)) (.idx (.var 5) (.int 2))) .nil))))))
  .nil)))), false⟩
def n_of_add : List String := ["frame", "ask", "mine", "yours", "one", "other", "column"]
def p_of_add : Nat := 2
/-- need_keys: keys=0 kinds=1 names=2 key=3 -/
def f_need_keys : Df := ⟨2, 4, (.cons (.ex (.call 7 (.cons (.bi (.isinst .tuple) (.var 0)) .nil)))
  (.cons (.own 2 .dnew)
  (.cons (.for_ (.nm 3) (.of (.var 0)) (.cons (.ex (.call 7 (.cons (.and_ (.bi (.isinst .tuple) (.var 3)) (.and_ (.cmp .eq (.bi .len (.var 3)) (.int 2)) (.and_ (.bi (.isinst .str) (.idx (.var 3) (.int 0))) (.bi (.isinst .str) (.idx (.var 3) (.int 1)))))) .nil)))
  (.cons (.ex (.call 7 (.cons (.and_ (.cmp .in_ (.idx (.var 3) (.int 0)) (.var 1)) (.and_ (.inO (.idx (.var 3) (.int 0)) 2 true) (.cmp .in_ (.idx (.var 3) (.int 1)) (.tup (.cons (.str [117, 112]) (.cons (.str [100, 111, 119, 110]) .nil)))))) .nil)))
  (.cons (.setO 2 (.idx (.var 3) (.int 0)) (.bl true))
  .nil))))
  .nil))), false⟩
def n_need_keys : List String := ["keys", "kinds", "names", "key"]
def p_need_keys : Nat := 2
/-- of_first: frame=0 ask=1 found=2 -/
def f_of_first : Df := ⟨2, 3, (.cons (.asg (.nm 2) (.call 21 (.cons (.var 0) (.cons (.idx (.var 1) (.int 1)) .nil))))
  (.cons (.ex (.call 17 (.cons (.idx (.var 1) (.int 2)) (.cons (.call 8 (.cons (.var 2) .nil)) .nil))))
  (.cons (.ex (.call 7 (.cons (.and_ (.call 0 (.cons (.idx (.var 1) (.int 3)) .nil)) (.cmp .ge (.idx (.var 1) (.int 3)) (.int 0))) .nil)))
  (.cons (.ret (.var 2))
  .nil)))), false⟩
def n_of_first : List String := ["frame", "ask", "found"]
def p_of_first : Nat := 2
/-- of_pick: frame=0 ask=1 found=2 -/
def f_of_pick : Df := ⟨2, 3, (.cons (.asg (.nm 2) (.call 21 (.cons (.var 0) (.cons (.idx (.var 1) (.int 1)) .nil))))
  (.cons (.ex (.call 10 (.cons (.var 0) (.cons (.idx (.var 1) (.int 2)) (.cons (.call 8 (.cons (.var 2) .nil)) .nil)))))
  (.cons (.ret (.var 2))
  .nil))), false⟩
def n_of_pick : List String := ["frame", "ask", "found"]
def p_of_pick : Nat := 2
/-- of_any: frame=0 ask=1 -/
def f_of_any : Df := ⟨2, 2, (.cons (.ite (.cmp .eq (.idx (.var 1) (.int 0)) (.str [116, 97, 98, 108, 101])) (.cons (.ret (.call 11 (.cons (.var 0) (.cons (.var 1) .nil))))
  .nil) .nil)
  (.cons (.ite (.cmp .eq (.idx (.var 1) (.int 0)) (.str [112, 105, 99, 107])) (.cons (.ret (.call 19 (.cons (.var 0) (.cons (.var 1) .nil))))
  .nil) .nil)
  (.cons (.ite (.cmp .eq (.idx (.var 1) (.int 0)) (.str [115, 104, 111, 119])) (.cons (.ret (.call 12 (.cons (.var 0) (.cons (.var 1) .nil))))
  .nil) .nil)
  (.cons (.ite (.cmp .eq (.idx (.var 1) (.int 0)) (.str [111, 110, 99, 101])) (.cons (.ret (.call 21 (.cons (.var 0) (.cons (.idx (.var 1) (.int 1)) .nil))))
  .nil) .nil)
  (.cons (.ite (.cmp .eq (.idx (.var 1) (.int 0)) (.str [103, 114, 111, 117, 112])) (.cons (.ret (.call 15 (.cons (.var 0) (.cons (.var 1) .nil))))
  .nil) .nil)
  (.cons (.ite (.cmp .eq (.idx (.var 1) (.int 0)) (.str [97, 100, 100])) (.cons (.ret (.call 16 (.cons (.var 0) (.cons (.var 1) .nil))))
  .nil) .nil)
  (.cons (.ite (.cmp .eq (.idx (.var 1) (.int 0)) (.str [102, 105, 114, 115, 116])) (.cons (.ret (.call 18 (.cons (.var 0) (.cons (.var 1) .nil))))
  .nil) .nil)
  (.cons (.ret (.call 13 (.cons (.var 0) (.cons (.var 1) .nil))))
  .nil)))))))), false⟩
def n_of_any : List String := ["frame", "ask"]
def p_of_any : Nat := 2
/-- columns: frame=0 ask=1 -/
def f_columns : Df := ⟨2, 2, (.cons (.ex (.call 7 (.cons (.and_ (.bi (.isinst .tuple) (.var 1)) (.and_ (.cmp .ne (.var 1) (.tup .nil)) (.bi (.isinst .str) (.idx (.var 1) (.int 0))))) .nil)))
  (.cons (.ex (.call 7 (.cons (.and_ (.inG (.idx (.var 1) (.int 0)) 0) (.cmp .eq (.bi .len (.var 1)) (.idxG 0 (.idx (.var 1) (.int 0))))) .nil)))
  (.cons (.ret (.bi .sorted (.call 20 (.cons (.var 0) (.cons (.var 1) .nil)))))
  .nil))), false⟩
def n_columns : List String := ["frame", "ask"]
def p_columns : Nat := 2
/-- conjuncts: cond=0 -/
def f_conjuncts : Df := ⟨1, 1, (.cons (.ite (.cmp .eq (.idx (.var 0) (.int 0)) (.str [98, 111, 116, 104])) (.cons (.ret (.op .add (.call 22 (.cons (.idx (.var 0) (.int 1)) .nil)) (.call 22 (.cons (.idx (.var 0) (.int 2)) .nil))))
  .nil) .nil)
  (.cons (.ite (.cmp .eq (.idx (.var 0) (.int 0)) (.str [121, 101, 115])) (.cons (.ret (.lst .nil))
  .nil) .nil)
  (.cons (.ret (.lst (.cons (.var 0) .nil)))
  .nil))), false⟩
def n_conjuncts : List String := ["cond"]
def p_conjuncts : Nat := 1
/-- is_told: one=0 -/
def f_is_told : Df := ⟨1, 1, (.cons (.ret (.cmp .in_ (.idx (.var 0) (.int 0)) (.glob 6)))
  .nil), false⟩
def n_is_told : List String := ["one"]
def p_is_told : Nat := 1
/-- is_straight_part: cond=0 -/
def f_is_straight_part : Df := ⟨1, 1, (.cons (.ite (.cmp .eq (.idx (.var 0) (.int 0)) (.str [105, 115])) (.cons (.ret (.and_ (.call 23 (.cons (.idx (.var 0) (.int 1)) .nil)) (.call 23 (.cons (.idx (.var 0) (.int 2)) .nil))))
  .nil) .nil)
  (.cons (.ite (.cmp .eq (.idx (.var 0) (.int 0)) (.str [105, 115, 110, 111, 116, 104, 105, 110, 103])) (.cons (.ret (.call 23 (.cons (.idx (.var 0) (.int 1)) .nil)))
  .nil) .nil)
  (.cons (.ite (.cmp .eq (.idx (.var 0) (.int 0)) (.str [110, 111, 116])) (.cons (.ret (.and_ (.cmp .eq (.idx (.idx (.var 0) (.int 1)) (.int 0)) (.str [105, 115, 110, 111, 116, 104, 105, 110, 103])) (.call 23 (.cons (.idx (.idx (.var 0) (.int 1)) (.int 1)) .nil))))
  .nil) .nil)
  (.cons (.ret (.and_ (.cmp .eq (.idx (.var 0) (.int 0)) (.str [115, 111, 109, 101])) (.and_ (.call 26 (.cons (.idx (.var 0) (.int 1)) .nil)) (.call 25 (.cons (.idx (.var 0) (.int 2)) .nil)))))
  .nil)))), false⟩
def n_is_straight_part : List String := ["cond"]
def p_is_straight_part : Nat := 1
/-- is_straight_cond: cond=0 one=1 -/
def f_is_straight_cond : Df := ⟨1, 2, (.cons (.ret (.bi .all (.comp (.nm 1) [1] (.of (.call 22 (.cons (.var 0) .nil))) (.bl true) (.call 24 (.cons (.var 1) .nil)))))
  .nil), false⟩
def n_is_straight_cond : List String := ["cond", "one"]
def p_is_straight_cond : Nat := 1
/-- is_straight_form: ask=0 word=1 sides=2 pair=3 -/
def f_is_straight_form : Df := ⟨1, 4, (.cons (.asg (.nm 1) (.idx (.var 0) (.int 0)))
  (.cons (.ite (.cmp .notin (.var 1) (.glob 5)) (.cons (.ret (.bl false))
  .nil) .nil)
  (.cons (.ite (.cmp .eq (.var 1) (.str [116, 97, 98, 108, 101])) (.cons (.ret (.bl true))
  .nil) .nil)
  (.cons (.ite (.cmp .eq (.var 1) (.str [115, 104, 111, 119])) (.cons (.ret (.and_ (.bi .all (.comp (.nm 3) [3] (.of (.idx (.var 0) (.int 2))) (.bl true) (.call 23 (.cons (.idx (.var 3) (.int 1)) .nil)))) (.call 26 (.cons (.idx (.var 0) (.int 1)) .nil))))
  .nil) .nil)
  (.cons (.ite (.cmp .eq (.var 1) (.str [111, 110, 99, 101])) (.cons (.ret (.call 26 (.cons (.idx (.var 0) (.int 1)) .nil)))
  .nil) .nil)
  (.cons (.ite (.cmp .eq (.var 1) (.str [112, 105, 99, 107])) (.cons (.ret (.and_ (.call 25 (.cons (.idx (.var 0) (.int 2)) .nil)) (.call 26 (.cons (.idx (.var 0) (.int 1)) .nil))))
  .nil) .nil)
  (.cons (.asg (.nm 2) (.and_ (.call 26 (.cons (.idx (.var 0) (.int 1)) .nil)) (.call 26 (.cons (.idx (.var 0) (.int 2)) .nil))))
  (.cons (.ret (.and_ (.var 2) (.or_ (.cmp .eq (.var 1) (.str [97, 100, 100])) (.call 25 (.cons (.idx (.var 0) (.int 3)) .nil)))))
  .nil)))))))), false⟩
def n_is_straight_form : List String := ["ask", "word", "sides", "pair"]
def p_is_straight_form : Nat := 1
/-- is_straight: frame=0 ask=1 -/
def f_is_straight : Df := ⟨2, 2, (.cons (.ex (.call 21 (.cons (.var 0) (.cons (.var 1) .nil))))
  (.cons (.ret (.call 26 (.cons (.var 1) .nil)))
  .nil)), false⟩
def n_is_straight : List String := ["frame", "ask"]
def p_is_straight : Nat := 2
/-- _law_well: script=0 cell=1 -/
def f_law_well : Df := ⟨1, 2, (.cons (.ret (.lst (.cons (.comp (.nm 1) [1] (.of (.cut (.var 0) .no (.so (.int 63)))) (.bl true) (.bi .int_ (.var 1))) (.cons (.int 0) (.cons (.int 0) .nil)))))
  .nil), false⟩
def n_law_well : List String := ["script", "cell"]
def p_law_well : Nat := 1
/-- _law_draw: well=0 many=1 turn=2 cell=3 mixed=4 left=5 -/
def f_law_draw : Df := ⟨2, 6, (.cons (.ite (.cmp .gt (.idx (.var 0) (.int 2)) (.int 0)) (.cons (.asg (.nm 5) (.bi .int_ (.idx (.var 0) (.int 2))))
  (.cons (.setR (.var 0) (.int 2) (.op .fdiv (.var 5) (.var 1)))
  (.cons (.ret (.op .mod (.bi .int_ (.var 5)) (.var 1)))
  .nil))) .nil)
  (.cons (.asg (.nm 2) (.idx (.var 0) (.int 1)))
  (.cons (.setR (.var 0) (.int 1) (.op .add (.var 2) (.int 1)))
  (.cons (.asg (.nm 3) (.op .add (.op .mul (.int 91009) (.var 2)) (.int 2311)))
  (.cons (.ite (.cmp .ne (.idx (.var 0) (.int 0)) (.lst .nil)) (.cons (.asg (.nm 3) (.idx (.idx (.var 0) (.int 0)) (.op .mod (.bi .int_ (.var 2)) (.bi .len (.idx (.var 0) (.int 0))))))
  .nil) .nil)
  (.cons (.ite (.and_ (.cmp .lt (.var 2) (.bi .len (.idx (.var 0) (.int 0)))) (.cmp .ge (.bi .abs (.var 3)) (.op .pow (.int 10) (.int 18)))) (.cons (.asg (.nm 5) (.op .add (.op .mul (.int 2) (.op .sub (.bi .abs (.bi .int_ (.var 3))) (.op .pow (.int 10) (.int 18)))) (.bi .int_ (.cmp .lt (.var 3) (.int 0)))))
  (.cons (.setR (.var 0) (.int 2) (.op .fdiv (.var 5) (.var 1)))
  (.cons (.ret (.op .mod (.bi .int_ (.var 5)) (.var 1)))
  .nil))) .nil)
  (.cons (.asg (.nm 4) (.op .mod (.bi .int_ (.op .pow (.op .add (.op .add (.op .mod (.bi .int_ (.var 3)) (.int 2147483587)) (.op .mul (.int 5407) (.var 2))) (.int 2311)) (.int 5))) (.int 2147483563)))
  (.cons (.asg (.nm 4) (.op .mod (.bi .int_ (.op .pow (.op .add (.op .add (.op .mul (.var 4) (.op .add (.op .mul (.int 2) (.var 2)) (.int 311))) (.op .mul (.op .mul (.int 91009) (.var 2)) (.var 2))) (.int 5407)) (.int 3))) (.int 2147483549)))
  (.cons (.ret (.op .mod (.bi .int_ (.op .fdiv (.var 4) (.int 64))) (.var 1)))
  .nil))))))))), false⟩
def n_law_draw : List String := ["well", "many", "turn", "cell", "mixed", "left"]
def p_law_draw : Nat := 2
/-- _law_one: well=0 some=1 -/
def f_law_one : Df := ⟨2, 2, (.cons (.ret (.idx (.var 1) (.call 29 (.cons (.var 0) (.cons (.bi .len (.var 1)) .nil)))))
  .nil), false⟩
def n_law_one : List String := ["well", "some"]
def p_law_one : Nat := 2
/-- _law_letters: well=0 number=1 -/
def f_law_letters : Df := ⟨2, 2, (.cons (.ret (.op .add (.idx (.str [97, 98, 99, 100, 101, 102, 103, 104, 105, 106, 107, 108, 109, 110, 111, 112]) (.var 1)) (.idx (.lst (.cons (.str []) (.cons (.str [120]) (.cons (.str [114, 111, 119]) (.cons (.str [113]) .nil))))) (.idx (.var 0) (.int 3)))))
  .nil), false⟩
def n_law_letters : List String := ["well", "number"]
def p_law_letters : Nat := 2
/-- _law_begun: script=0 well=1 -/
def f_law_begun : Df := ⟨1, 2, (.cons (.own 1 (.op .add (.call 28 (.cons (.var 0) .nil)) (.lst (.cons (.int 0) (.cons (.int 0) (.cons (.int 0) .nil))))))
  (.cons (.share 1)
  (.cons (.setR (.var 1) (.int 3) (.call 29 (.cons (.var 1) (.cons (.int 4) .nil))))
  (.cons (.ret (.var 1))
  .nil)))), false⟩
def n_law_begun : List String := ["script", "well"]
def p_law_begun : Nat := 1
/-- _law_table: well=0 at=1 fields=2 k=3 sure=4 keys=5 kind=6 name=7 maybe=8 -/
def f_law_table : Df := ⟨2, 9, (.cons (.own 2 (.lst .nil))
  (.cons (.for_ (.nm 3) (.range1 (.op .add (.int 1) (.call 30 (.cons (.var 0) (.cons (.lst (.cons (.int 0) (.cons (.int 1) (.cons (.int 1) (.cons (.int 2) .nil))))) .nil))))) (.cons (.asg (.nm 6) (.call 30 (.cons (.var 0) (.cons (.lst (.cons (.str [110, 117, 109, 98, 101, 114]) (.cons (.str [110, 117, 109, 98, 101, 114]) (.cons (.str [116, 101, 120, 116]) .nil)))) .nil))))
  (.cons (.app 2 (.tup (.cons (.call 31 (.cons (.var 0) (.cons (.op .add (.op .mul (.int 4) (.var 1)) (.var 3)) .nil))) (.cons (.var 6) (.cons (.and_ (.cmp .gt (.var 3) (.int 0)) (.cmp .eq (.call 29 (.cons (.var 0) (.cons (.int 2) .nil))) (.int 0))) .nil)))))
  .nil)))
  (.cons (.freeze 2)
  (.cons (.asg (.nm 4) (.comp (.tup [(.nm 7), (.nm 6), (.nm 8)]) [7, 6, 8] (.of (.var 2)) (.not_ (.var 8)) (.var 7)))
  (.cons (.asg (.nm 5) (.call 30 (.cons (.var 0) (.cons (.lst (.cons (.tup .nil) (.cons (.tup (.cons (.tup (.cons (.idx (.var 4) (.int 0)) .nil)) .nil)) (.cons (.tup (.cons (.tup (.cons (.idx (.var 4) (.int 0)) .nil)) .nil)) (.cons (.tup (.cons (.bi .tuple (.var 4)) .nil)) (.cons (.bi .tuple (.comp (.nm 7) [7] (.of (.var 4)) (.bl true) (.tup (.cons (.var 7) .nil)))) .nil)))))) .nil))))
  (.cons (.ret (.tup (.cons (.call 31 (.cons (.var 0) (.cons (.op .add (.op .mul (.int 4) (.var 1)) (.int 3)) .nil))) (.cons (.bi .tuple (.var 2)) (.cons (.var 5) .nil)))))
  .nil)))))), false⟩
def n_law_table : List String := ["well", "at", "fields", "k", "sure", "keys", "kind", "name", "maybe"]
def p_law_table : Nat := 2
/-- _law_points: well=0 tables=1 points=2 at=3 table=4 goal=5 key=6 kinds=7 name=8 left=9 found=10 some=11 field=12 kind=13 maybe=14 -/
def f_law_points : Df := ⟨2, 15, (.cons (.own 2 (.lst .nil))
  (.cons (.for_ (.tup [(.nm 3), (.nm 4)]) (.enumT (.var 1)) (.cons (.for_ (.nm 5) (.of (.cut (.var 1) (.so (.op .add (.var 3) (.int 1))) .no)) (.cons (.for_ (.nm 6) (.of (.idx (.var 5) (.int 2))) (.cons (.asg (.nm 7) (.bi .dict (.comp (.tup [(.nm 8), (.nm 13), (.nm 14)]) [8, 13, 14] (.of (.idx (.var 5) (.int 1))) (.bl true) (.tup (.cons (.var 8) (.cons (.var 13) .nil))))))
  (.cons (.par2 9 10 false true (.bi .list (.idx (.var 4) (.int 1))) (.lst .nil))
  (.cons (.for_ (.nm 8) (.of (.var 6)) (.cons (.asg (.nm 11) (.comp (.nm 12) [12] (.of (.var 9)) (.cmp .eq (.idx (.var 12) (.int 1)) (.idx (.var 7) (.var 8))) (.var 12)))
  (.cons (.ite (.cmp .ne (.var 11) (.lst .nil)) (.cons (.app 10 (.idx (.idx (.var 11) (.call 29 (.cons (.var 0) (.cons (.bi .len (.var 11)) .nil)))) (.int 0)))
  (.cons (.asg (.nm 9) (.comp (.nm 12) [12] (.of (.var 9)) (.cmp .ne (.idx (.var 12) (.int 0)) (.idxO 10 (.neg (.int 1)))) (.var 12)))
  .nil)) .nil)
  .nil)))
  (.cons (.ite (.and_ (.cmp .eq (.lenO 10) (.bi .len (.var 6))) (.and_ (.cmp .gt (.call 29 (.cons (.var 0) (.cons (.int 3) .nil))) (.int 0)) (.cmp .lt (.lenO 2) (.int 4)))) (.cons (.freeze 10)
  (.cons (.app 2 (.tup (.cons (.idx (.var 4) (.int 0)) (.cons (.bi .tuple (.var 10)) (.cons (.idx (.var 5) (.int 0)) (.cons (.var 6) .nil))))))
  .nil)) .nil)
  .nil)))))
  .nil))
  .nil))
  (.cons (.freeze 2)
  (.cons (.ret (.bi .tuple (.var 2)))
  .nil)))), false⟩
def n_law_points : List String := ["well", "tables", "points", "at", "table", "goal", "key", "kinds", "name", "left", "found", "some", "field", "kind", "maybe"]
def p_law_points : Nat := 2
/-- _law_frame: well=0 tables=1 at=2 -/
def f_law_frame : Df := ⟨1, 3, (.cons (.asg (.nm 1) (.bi .tuple (.comp (.nm 2) [2] (.range1 (.op .add (.int 1) (.call 30 (.cons (.var 0) (.cons (.lst (.cons (.int 0) (.cons (.int 1) (.cons (.int 1) (.cons (.int 2) .nil))))) .nil))))) (.bl true) (.call 33 (.cons (.var 0) (.cons (.var 2) .nil))))))
  (.cons (.ret (.tup (.cons (.var 1) (.cons (.call 34 (.cons (.var 0) (.cons (.var 1) .nil))) .nil))))
  .nil)), false⟩
def n_law_frame : List String := ["well", "tables", "at"]
def p_law_frame : Nat := 1
/-- _law_named: frame=0 name=1 table=2 -/
def f_law_named : Df := ⟨2, 3, (.cons (.ret (.idx (.comp (.nm 2) [2] (.of (.idx (.var 0) (.int 0))) (.cmp .eq (.idx (.var 2) (.int 0)) (.var 1)) (.var 2)) (.int 0)))
  .nil), false⟩
def n_law_named : List String := ["frame", "name", "table"]
def p_law_named : Nat := 2
/-- _law_kinds: frame=0 ask=1 found=2 known=3 name=4 kind=5 maybe=6 one=7 -/
def f_law_kinds : Df := ⟨2, 8, (.cons (.ite (.cmp .eq (.idx (.var 1) (.int 0)) (.str [116, 97, 98, 108, 101])) (.cons (.ret (.bi .dict (.comp (.tup [(.nm 4), (.nm 5), (.nm 6)]) [4, 5, 6] (.of (.idx (.call 36 (.cons (.var 0) (.cons (.idx (.var 1) (.int 1)) .nil))) (.int 1))) (.bl true) (.tup (.cons (.op .add (.op .add (.idx (.var 1) (.int 2)) (.str [46])) (.var 4)) (.cons (.var 5) .nil))))))
  .nil) .nil)
  (.cons (.ite (.cmp .eq (.idx (.var 1) (.int 0)) (.str [115, 104, 111, 119])) (.cons (.asg (.nm 3) (.call 37 (.cons (.var 0) (.cons (.idx (.var 1) (.int 1)) .nil))))
  (.cons (.ret (.bi .dict (.comp (.tup [(.nm 4), (.nm 7)]) [4, 7] (.of (.idx (.var 1) (.int 2))) (.bl true) (.tup (.cons (.var 4) (.cons (.ite (.cmp .eq (.idx (.var 7) (.int 0)) (.str [99, 111, 108, 117, 109, 110])) (.idx (.var 3) (.idx (.var 7) (.int 1))) (.ite (.cmp .eq (.idx (.var 7) (.int 0)) (.str [110, 111, 116, 104, 105, 110, 103])) (.idx (.var 7) (.int 1)) (.idx (.var 7) (.int 0)))) .nil))))))
  .nil)) .nil)
  (.cons (.own 2 (.bi .dict (.call 37 (.cons (.var 0) (.cons (.idx (.var 1) (.int 1)) .nil)))))
  (.cons (.ite (.cmp .eq (.idx (.var 1) (.int 0)) (.str [106, 111, 105, 110])) (.cons (.upd 2 (.call 37 (.cons (.var 0) (.cons (.idx (.var 1) (.int 2)) .nil))))
  .nil) .nil)
  (.cons (.retOwn 2)
  .nil))))), false⟩
def n_law_kinds : List String := ["frame", "ask", "found", "known", "name", "kind", "maybe", "one"]
def p_law_kinds : Nat := 2
/-- _law_sum: well=0 cols=1 kind=2 names=3 way=4 name=5 -/
def f_law_sum : Df := ⟨3, 6, (.cons (.par2 3 4 false false (.bi .sorted (.comp (.nm 5) [5] (.keys 1) (.cmp .eq (.idx (.var 1) (.var 5)) (.var 2)) (.var 5))) (.call 29 (.cons (.var 0) (.cons (.int 8) .nil))))
  (.cons (.ite (.and_ (.cmp .ne (.var 3) (.lst .nil)) (.cmp .lt (.var 4) (.int 6))) (.cons (.ret (.tup (.cons (.str [99, 111, 108, 117, 109, 110]) (.cons (.call 30 (.cons (.var 0) (.cons (.var 3) .nil))) .nil))))
  .nil) .nil)
  (.cons (.ite (.and_ (.cmp .eq (.var 4) (.int 7)) (.cmp .eq (.call 29 (.cons (.var 0) (.cons (.int 3) .nil))) (.int 0))) (.cons (.ret (.tup (.cons (.str [110, 111, 116, 104, 105, 110, 103]) (.cons (.var 2) .nil))))
  .nil) .nil)
  (.cons (.ret (.ite (.cmp .eq (.var 2) (.str [116, 101, 120, 116])) (.tup (.cons (.str [116, 101, 120, 116]) (.cons (.call 30 (.cons (.var 0) (.cons (.lst (.cons (.str [97]) (.cons (.str [98]) (.cons (.str [99]) .nil)))) .nil))) .nil))) (.tup (.cons (.str [110, 117, 109, 98, 101, 114]) (.cons (.call 30 (.cons (.var 0) (.cons (.lst (.cons (.int 0) (.cons (.int 1) (.cons (.int 2) (.cons (.int 7) .nil))))) .nil))) .nil)))))
  .nil)))), false⟩
def n_law_sum : List String := ["well", "cols", "kind", "names", "way", "name"]
def p_law_sum : Nat := 3
/-- _law_is: well=0 cols=1 others=2 name=3 kind=4 mine=5 -/
def f_law_is : Df := ⟨3, 6, (.cons (.asg (.nm 3) (.call 30 (.cons (.var 0) (.cons (.bi .sorted (.var 1)) .nil))))
  (.cons (.asg (.nm 4) (.idx (.var 1) (.var 3)))
  (.cons (.asg (.nm 5) (.ite (.cmp .gt (.call 29 (.cons (.var 0) (.cons (.int 12) .nil))) (.int 0)) (.tup (.cons (.str [99, 111, 108, 117, 109, 110]) (.cons (.var 3) .nil))) (.call 38 (.cons (.var 0) (.cons (.var 1) (.cons (.var 4) .nil))))))
  (.cons (.ret (.tup (.cons (.str [105, 115]) (.cons (.var 5) (.cons (.call 38 (.cons (.var 0) (.cons (.ite (.cmp .in_ (.var 4) (.comp (.nm 3) [3] (.keys 2) (.bl true) (.idx (.var 2) (.var 3)))) (.var 2) (.var 1)) (.cons (.var 4) .nil)))) .nil)))))
  .nil)))), false⟩
def n_law_is : List String := ["well", "cols", "others", "name", "kind", "mine"]
def p_law_is : Nat := 3
/-- _law_straight_cond: well=0 frame=1 cols=2 deep=3 way=4 one=5 ask=6 mine=7 both=8 -/
def f_law_straight_cond : Df := ⟨4, 9, (.cons (.asg (.nm 4) (.call 29 (.cons (.var 0) (.cons (.int 9) .nil))))
  (.cons (.ite (.cmp .eq (.var 4) (.int 0)) (.cons (.ret (.tup (.cons (.str [121, 101, 115]) .nil)))
  .nil) .nil)
  (.cons (.ite (.cmp .lt (.var 4) (.int 3)) (.cons (.asg (.nm 5) (.tup (.cons (.str [105, 115, 110, 111, 116, 104, 105, 110, 103]) (.cons (.call 38 (.cons (.var 0) (.cons (.var 2) (.cons (.idx (.var 2) (.call 30 (.cons (.var 0) (.cons (.bi .sorted (.var 2)) .nil)))) .nil)))) .nil))))
  (.cons (.ret (.ite (.and_ (.cmp .eq (.var 4) (.int 2)) (.cmp .eq (.call 29 (.cons (.var 0) (.cons (.int 3) .nil))) (.int 0))) (.var 5) (.tup (.cons (.str [110, 111, 116]) (.cons (.var 5) .nil)))))
  .nil)) .nil)
  (.cons (.ite (.and_ (.cmp .eq (.var 4) (.int 3)) (.cmp .gt (.var 3) (.int 0))) (.cons (.ret (.tup (.cons (.str [98, 111, 116, 104]) (.cons (.call 40 (.cons (.var 0) (.cons (.var 1) (.cons (.var 2) (.cons (.op .sub (.var 3) (.int 1)) .nil))))) (.cons (.call 40 (.cons (.var 0) (.cons (.var 1) (.cons (.var 2) (.cons (.op .sub (.var 3) (.int 1)) .nil))))) .nil)))))
  .nil) .nil)
  (.cons (.ite (.and_ (.cmp .eq (.var 4) (.int 4)) (.and_ (.cmp .gt (.var 3) (.int 0)) (.cmp .lt (.idx (.var 0) (.int 4)) (.int 4)))) (.cons (.asg (.nm 6) (.call 41 (.cons (.var 0) (.cons (.var 1) (.cons (.int 0) .nil)))))
  (.cons (.asg (.nm 7) (.call 37 (.cons (.var 1) (.cons (.var 6) .nil))))
  (.cons (.asg (.nm 8) (.bi .dict (.op .add (.bi .items (.var 2)) (.bi .items (.var 7)))))
  (.cons (.ret (.tup (.cons (.str [115, 111, 109, 101]) (.cons (.var 6) (.cons (.ite (.cmp .eq (.call 29 (.cons (.var 0) (.cons (.int 3) .nil))) (.int 0)) (.tup (.cons (.str [98, 111, 116, 104]) (.cons (.call 39 (.cons (.var 0) (.cons (.var 7) (.cons (.var 2) .nil)))) (.cons (.call 40 (.cons (.var 0) (.cons (.var 1) (.cons (.var 8) (.cons (.int 0) .nil))))) .nil)))) (.call 39 (.cons (.var 0) (.cons (.var 7) (.cons (.var 2) .nil))))) .nil)))))
  .nil)))) .nil)
  (.cons (.ret (.call 39 (.cons (.var 0) (.cons (.var 2) (.cons (.var 2) .nil)))))
  .nil)))))), false⟩
def n_law_straight_cond : List String := ["well", "frame", "cols", "deep", "way", "one", "ask", "mine", "both"]
def p_law_straight_cond : Nat := 4
/-- _law_straight: well=0 frame=1 deep=2 way=3 one=4 cols=5 other=6 mine=7 cond=8 names=9 pairs=10 kind=11 name=12 at=13 -/
def f_law_straight : Df := ⟨3, 14, (.cons (.asg (.nm 3) (.ite (.and_ (.cmp .gt (.var 2) (.int 0)) (.cmp .lt (.idx (.var 0) (.int 4)) (.int 4))) (.call 30 (.cons (.var 0) (.cons (.lst (.cons (.int 0) (.cons (.int 1) (.cons (.int 1) (.cons (.int 2) (.cons (.int 3) (.cons (.int 3) (.cons (.int 4) (.cons (.int 4) (.cons (.int 5) (.cons (.int 6) .nil))))))))))) .nil))) (.int 0)))
  (.cons (.ite (.cmp .eq (.var 3) (.int 0)) (.cons (.setR (.var 0) (.int 4) (.op .add (.idx (.var 0) (.int 4)) (.int 1)))
  (.cons (.setR (.var 0) (.int 5) (.op .add (.idx (.var 0) (.int 5)) (.int 1)))
  (.cons (.ret (.tup (.cons (.str [116, 97, 98, 108, 101]) (.cons (.idx (.call 30 (.cons (.var 0) (.cons (.idx (.var 1) (.int 0)) .nil))) (.int 0)) (.cons (.op .add (.idx (.str [97, 98, 99, 100, 101, 102, 103, 104, 105, 106, 107, 108, 109, 110, 111, 112, 113, 114, 115, 116, 117, 118, 119, 120, 121, 122]) (.op .fdiv (.idx (.var 0) (.int 5)) (.int 26))) (.idx (.str [97, 98, 99, 100, 101, 102, 103, 104, 105, 106, 107, 108, 109, 110, 111, 112, 113, 114, 115, 116, 117, 118, 119, 120, 121, 122]) (.op .mod (.bi .int_ (.idx (.var 0) (.int 5))) (.int 26)))) .nil)))))
  .nil))) .nil)
  (.cons (.asg (.nm 4) (.call 41 (.cons (.var 0) (.cons (.var 1) (.cons (.op .sub (.var 2) (.int 1)) .nil)))))
  (.cons (.asg (.nm 5) (.call 37 (.cons (.var 1) (.cons (.var 4) .nil))))
  (.cons (.ite (.cmp .eq (.var 3) (.int 1)) (.cons (.ret (.tup (.cons (.str [112, 105, 99, 107]) (.cons (.var 4) (.cons (.call 40 (.cons (.var 0) (.cons (.var 1) (.cons (.var 5) (.cons (.int 1) .nil))))) .nil)))))
  .nil) .nil)
  (.cons (.ite (.cmp .eq (.var 3) (.int 2)) (.cons (.asg (.nm 9) (.op .add (.comp (.nm 12) [12] (.of (.bi .sorted (.var 5))) (.cmp .gt (.call 29 (.cons (.var 0) (.cons (.int 3) .nil))) (.int 0)) (.var 12)) (.lst (.cons (.call 30 (.cons (.var 0) (.cons (.bi .sorted (.var 5)) .nil))) .nil))))
  (.cons (.asg (.nm 10) (.comp (.tup [(.nm 13), (.nm 12)]) [13, 12] (.enum (.var 9)) (.cmp .notin (.var 12) (.cut (.var 9) .no (.so (.var 13)))) (.tup (.cons (.var 12) (.cons (.tup (.cons (.str [99, 111, 108, 117, 109, 110]) (.cons (.var 12) .nil))) .nil)))))
  (.cons (.asg (.nm 11) (.idx (.var 5) (.call 30 (.cons (.var 0) (.cons (.bi .sorted (.var 5)) .nil)))))
  (.cons (.ret (.tup (.cons (.str [115, 104, 111, 119]) (.cons (.var 4) (.cons (.bi .tuple (.op .add (.var 10) (.ite (.and_ (.cmp .eq (.call 29 (.cons (.var 0) (.cons (.int 3) .nil))) (.int 0)) (.cmp .notin (.str [110, 101, 119]) (.var 5))) (.lst (.cons (.tup (.cons (.str [110, 101, 119]) (.cons (.call 38 (.cons (.var 0) (.cons (.var 5) (.cons (.var 11) .nil)))) .nil))) .nil)) (.lst .nil)))) .nil)))))
  .nil)))) .nil)
  (.cons (.ite (.cmp .eq (.var 3) (.int 5)) (.cons (.ret (.tup (.cons (.str [111, 110, 99, 101]) (.cons (.var 4) .nil))))
  .nil) .nil)
  (.cons (.ite (.cmp .eq (.var 3) (.int 6)) (.cons (.ret (.ite (.cmp .eq (.call 29 (.cons (.var 0) (.cons (.int 2) .nil))) (.int 0)) (.tup (.cons (.str [97, 100, 100]) (.cons (.tup (.cons (.str [112, 105, 99, 107]) (.cons (.var 4) (.cons (.call 40 (.cons (.var 0) (.cons (.var 1) (.cons (.var 5) (.cons (.int 0) .nil))))) .nil)))) (.cons (.var 4) .nil)))) (.tup (.cons (.str [97, 100, 100]) (.cons (.var 4) (.cons (.tup (.cons (.str [112, 105, 99, 107]) (.cons (.var 4) (.cons (.call 40 (.cons (.var 0) (.cons (.var 1) (.cons (.var 5) (.cons (.int 0) .nil))))) .nil)))) .nil))))))
  .nil) .nil)
  (.cons (.asg (.nm 6) (.call 41 (.cons (.var 0) (.cons (.var 1) (.cons (.op .sub (.var 2) (.int 1)) .nil)))))
  (.cons (.asg (.nm 7) (.call 37 (.cons (.var 1) (.cons (.var 6) .nil))))
  (.cons (.ite (.cmp .ne (.comp (.nm 12) [12] (.keys 7) (.cmp .in_ (.var 12) (.var 5)) (.var 12)) (.lst .nil)) (.cons (.ret (.var 4))
  .nil) .nil)
  (.cons (.asg (.nm 8) (.ite (.cmp .gt (.call 29 (.cons (.var 0) (.cons (.int 5) .nil))) (.int 0)) (.call 39 (.cons (.var 0) (.cons (.var 5) (.cons (.var 7) .nil)))) (.tup (.cons (.str [121, 101, 115]) .nil))))
  (.cons (.ite (.cmp .eq (.call 29 (.cons (.var 0) (.cons (.int 4) .nil))) (.int 0)) (.cons (.asg (.nm 8) (.tup (.cons (.str [98, 111, 116, 104]) (.cons (.var 8) (.cons (.call 40 (.cons (.var 0) (.cons (.var 1) (.cons (.bi .dict (.op .add (.bi .items (.var 5)) (.bi .items (.var 7)))) (.cons (.int 0) .nil))))) .nil)))))
  .nil) .nil)
  (.cons (.ret (.tup (.cons (.ite (.cmp .eq (.var 3) (.int 3)) (.str [106, 111, 105, 110]) (.str [104, 97, 108, 102])) (.cons (.var 4) (.cons (.var 6) (.cons (.var 8) .nil))))))
  .nil)))))))))))))), false⟩
def n_law_straight : List String := ["well", "frame", "deep", "way", "one", "cols", "other", "mine", "cond", "names", "pairs", "kind", "name", "at"]
def p_law_straight : Nat := 3
/-- _law_is_sum: one=0 -/
def f_law_is_sum : Df := ⟨1, 1, (.cons (.ret (.cmp .in_ (.idx (.var 0) (.int 0)) (.tup (.cons (.str [99, 111, 108, 117, 109, 110]) (.cons (.str [110, 117, 109, 98, 101, 114]) (.cons (.str [116, 101, 120, 116]) (.cons (.str [110, 111, 116, 104, 105, 110, 103]) .nil)))))))
  .nil), false⟩
def n_law_is_sum : List String := ["one"]
def p_law_is_sum : Nat := 1
/-- _law_is_cond: cond=0 one=1 -/
def f_law_is_cond : Df := ⟨1, 2, (.cons (.ite (.cmp .eq (.idx (.var 0) (.int 0)) (.str [98, 111, 116, 104])) (.cons (.ret (.and_ (.call 43 (.cons (.idx (.var 0) (.int 1)) .nil)) (.call 43 (.cons (.idx (.var 0) (.int 2)) .nil))))
  .nil) .nil)
  (.cons (.ite (.cmp .eq (.idx (.var 0) (.int 0)) (.str [115, 111, 109, 101])) (.cons (.ret (.and_ (.call 44 (.cons (.idx (.var 0) (.int 1)) .nil)) (.call 43 (.cons (.idx (.var 0) (.int 2)) .nil))))
  .nil) .nil)
  (.cons (.ite (.cmp .eq (.idx (.var 0) (.int 0)) (.str [110, 111, 116])) (.cons (.ret (.and_ (.cmp .eq (.idx (.idx (.var 0) (.int 1)) (.int 0)) (.str [105, 115, 110, 111, 116, 104, 105, 110, 103])) (.call 42 (.cons (.idx (.idx (.var 0) (.int 1)) (.int 1)) .nil))))
  .nil) .nil)
  (.cons (.ret (.or_ (.cmp .eq (.idx (.var 0) (.int 0)) (.str [121, 101, 115])) (.and_ (.cmp .in_ (.idx (.var 0) (.int 0)) (.tup (.cons (.str [105, 115]) (.cons (.str [105, 115, 110, 111, 116, 104, 105, 110, 103]) .nil)))) (.cmp .eq (.comp (.nm 1) [1] (.of (.cut (.var 0) (.so (.int 1)) .no)) (.not_ (.call 42 (.cons (.var 1) .nil))) (.var 1)) (.lst .nil)))))
  .nil)))), false⟩
def n_law_is_cond : List String := ["cond", "one"]
def p_law_is_cond : Nat := 1
/-- _law_is_ask: ask=0 name=1 one=2 -/
def f_law_is_ask : Df := ⟨1, 3, (.cons (.ite (.cmp .eq (.idx (.var 0) (.int 0)) (.str [116, 97, 98, 108, 101])) (.cons (.ret (.bl true))
  .nil) .nil)
  (.cons (.ite (.cmp .eq (.idx (.var 0) (.int 0)) (.str [112, 105, 99, 107])) (.cons (.ret (.and_ (.call 44 (.cons (.idx (.var 0) (.int 1)) .nil)) (.call 43 (.cons (.idx (.var 0) (.int 2)) .nil))))
  .nil) .nil)
  (.cons (.ite (.cmp .eq (.idx (.var 0) (.int 0)) (.str [115, 104, 111, 119])) (.cons (.ret (.and_ (.call 44 (.cons (.idx (.var 0) (.int 1)) .nil)) (.cmp .eq (.comp (.tup [(.nm 1), (.nm 2)]) [1, 2] (.of (.idx (.var 0) (.int 2))) (.not_ (.call 42 (.cons (.var 2) .nil))) (.var 2)) (.lst .nil))))
  .nil) .nil)
  (.cons (.ite (.cmp .in_ (.idx (.var 0) (.int 0)) (.tup (.cons (.str [106, 111, 105, 110]) (.cons (.str [104, 97, 108, 102]) .nil)))) (.cons (.ret (.and_ (.call 44 (.cons (.idx (.var 0) (.int 1)) .nil)) (.and_ (.call 44 (.cons (.idx (.var 0) (.int 2)) .nil)) (.call 43 (.cons (.idx (.var 0) (.int 3)) .nil)))))
  .nil) .nil)
  (.cons (.ite (.cmp .eq (.idx (.var 0) (.int 0)) (.str [97, 100, 100])) (.cons (.ret (.and_ (.call 44 (.cons (.idx (.var 0) (.int 1)) .nil)) (.call 44 (.cons (.idx (.var 0) (.int 2)) .nil))))
  .nil) .nil)
  (.cons (.ret (.and_ (.cmp .eq (.idx (.var 0) (.int 0)) (.str [111, 110, 99, 101])) (.call 44 (.cons (.idx (.var 0) (.int 1)) .nil))))
  .nil)))))), false⟩
def n_law_is_ask : List String := ["ask", "name", "one"]
def p_law_is_ask : Nat := 1
/-- _law_crooked: well=0 frame=1 ask=2 conds=3 asks=4 cols=5 part=6 name=7 near=8 one=9 other=10 turn=11 -/
def f_law_crooked : Df := ⟨3, 12, (.cons (.par2 5 6 false false (.call 37 (.cons (.var 1) (.cons (.var 2) .nil))) (.tup (.cons (.str [116, 97, 98, 108, 101]) (.cons (.idx (.call 30 (.cons (.var 0) (.cons (.idx (.var 1) (.int 0)) .nil))) (.int 0)) (.cons (.str [122, 122]) .nil)))))
  (.cons (.par2 7 8 false false (.call 30 (.cons (.var 0) (.cons (.bi .sorted (.var 5)) .nil))) (.tup (.cons (.str [116, 97, 98, 108, 101]) (.cons (.idx (.var 6) (.int 1)) (.cons (.str [122, 120]) .nil)))))
  (.cons (.par2 9 10 false false (.tup (.cons (.str [99, 111, 108, 117, 109, 110]) (.cons (.var 7) .nil))) (.call 38 (.cons (.var 0) (.cons (.var 5) (.cons (.idx (.var 5) (.var 7)) .nil)))))
  (.cons (.asg (.nm 3) (.lst (.cons (.tup (.cons (.str [108, 101, 115, 115]) (.cons (.var 9) (.cons (.var 10) .nil)))) (.cons (.tup (.cons (.str [101, 105, 116, 104, 101, 114]) (.cons (.tup (.cons (.str [121, 101, 115]) .nil)) (.cons (.tup (.cons (.str [105, 115]) (.cons (.var 9) (.cons (.var 10) .nil)))) .nil)))) (.cons (.tup (.cons (.str [110, 111, 116]) (.cons (.tup (.cons (.str [105, 115]) (.cons (.var 9) (.cons (.var 10) .nil)))) .nil))) (.cons (.tup (.cons (.str [110, 111, 116]) (.cons (.tup (.cons (.str [121, 101, 115]) .nil)) .nil))) (.cons (.tup (.cons (.str [110, 111, 116]) (.cons (.tup (.cons (.str [110, 111, 116]) (.cons (.tup (.cons (.str [105, 115, 110, 111, 116, 104, 105, 110, 103]) (.cons (.var 9) .nil))) .nil))) .nil))) .nil)))))))
  (.cons (.asg (.nm 3) (.op .add (.var 3) (.lst (.cons (.tup (.cons (.str [98, 111, 116, 104]) (.cons (.tup (.cons (.str [105, 115, 110, 111, 116, 104, 105, 110, 103]) (.cons (.var 9) .nil))) (.cons (.tup (.cons (.str [108, 101, 115, 115]) (.cons (.var 10) (.cons (.var 9) .nil)))) .nil)))) (.cons (.tup (.cons (.str [98, 111, 116, 104]) (.cons (.tup (.cons (.str [121, 101, 115]) .nil)) (.cons (.tup (.cons (.str [110, 111, 116]) (.cons (.tup (.cons (.str [98, 111, 116, 104]) (.cons (.tup (.cons (.str [121, 101, 115]) .nil)) (.cons (.tup (.cons (.str [121, 101, 115]) .nil)) .nil)))) .nil))) .nil)))) .nil)))))
  (.cons (.asg (.nm 3) (.op .add (.var 3) (.lst (.cons (.tup (.cons (.str [115, 111, 109, 101]) (.cons (.var 6) (.cons (.tup (.cons (.str [108, 101, 115, 115]) (.cons (.var 9) (.cons (.var 10) .nil)))) .nil)))) (.cons (.tup (.cons (.str [115, 111, 109, 101]) (.cons (.tup (.cons (.str [108, 97, 99, 107]) (.cons (.var 6) (.cons (.tup (.cons (.str [116, 97, 98, 108, 101]) (.cons (.idx (.var 6) (.int 1)) (.cons (.str [122, 121]) .nil)))) (.cons (.tup (.cons (.str [121, 101, 115]) .nil)) .nil))))) (.cons (.tup (.cons (.str [121, 101, 115]) .nil)) .nil)))) (.cons (.tup (.cons (.str [115, 111, 109, 101]) (.cons (.tup (.cons (.str [102, 105, 114, 115, 116]) (.cons (.var 6) (.cons (.tup .nil) (.cons (.int 1) .nil))))) (.cons (.tup (.cons (.str [121, 101, 115]) .nil)) .nil)))) .nil))))))
  (.cons (.ite (.cmp .eq (.idx (.var 5) (.var 7)) (.str [110, 117, 109, 98, 101, 114])) (.cons (.asg (.nm 3) (.op .add (.var 3) (.lst (.cons (.tup (.cons (.str [105, 115]) (.cons (.tup (.cons (.str [112, 108, 117, 115]) (.cons (.var 9) (.cons (.var 10) .nil)))) (.cons (.var 9) .nil)))) (.cons (.tup (.cons (.str [105, 115, 110, 111, 116, 104, 105, 110, 103]) (.cons (.tup (.cons (.str [116, 105, 109, 101, 115]) (.cons (.var 9) (.cons (.tup (.cons (.str [110, 117, 109, 98, 101, 114]) (.cons (.int 2) .nil))) .nil)))) .nil))) (.cons (.tup (.cons (.str [110, 111, 116]) (.cons (.tup (.cons (.str [105, 115, 110, 111, 116, 104, 105, 110, 103]) (.cons (.tup (.cons (.str [109, 105, 110, 117, 115]) (.cons (.var 9) (.cons (.var 10) .nil)))) .nil))) .nil))) .nil))))))
  .nil) .nil)
  (.cons (.asg (.nm 4) (.lst (.cons (.tup (.cons (.str [108, 101, 102, 116]) (.cons (.var 2) (.cons (.var 6) (.cons (.tup (.cons (.str [121, 101, 115]) .nil)) .nil))))) (.cons (.tup (.cons (.str [108, 97, 99, 107]) (.cons (.var 2) (.cons (.var 6) (.cons (.tup (.cons (.str [121, 101, 115]) .nil)) .nil))))) (.cons (.tup (.cons (.str [103, 114, 111, 117, 112]) (.cons (.var 2) (.cons (.tup (.cons (.var 7) .nil)) (.cons (.tup .nil) .nil))))) (.cons (.tup (.cons (.str [102, 105, 114, 115, 116]) (.cons (.var 2) (.cons (.tup .nil) (.cons (.int 3) .nil))))) (.cons (.tup (.cons (.str [112, 105, 99, 107]) (.cons (.var 2) (.cons (.tup (.cons (.str [98, 111, 116, 104]) (.cons (.tup (.cons (.str [105, 115, 110, 111, 116, 104, 105, 110, 103]) (.cons (.var 9) .nil))) (.cons (.tup (.cons (.str [110, 111, 116]) (.cons (.tup (.cons (.str [105, 115, 110, 111, 116, 104, 105, 110, 103]) (.cons (.var 10) .nil))) .nil))) .nil)))) .nil)))) .nil)))))))
  (.cons (.own 4 (.op .add (.op .add (.var 4) (.comp (.nm 11) [11] (.range1 (.int 6)) (.bl true) (.tup (.cons (.str [112, 105, 99, 107]) (.cons (.var 2) (.cons (.call 30 (.cons (.var 0) (.cons (.var 3) .nil))) .nil)))))) (.lst (.cons (.tup (.cons (.str [106, 111, 105, 110]) (.cons (.var 2) (.cons (.var 8) (.cons (.call 30 (.cons (.var 0) (.cons (.var 3) .nil))) .nil))))) (.cons (.tup (.cons (.str [104, 97, 108, 102]) (.cons (.var 2) (.cons (.var 8) (.cons (.call 30 (.cons (.var 0) (.cons (.var 3) .nil))) .nil))))) .nil)))))
  (.cons (.ite (.cmp .eq (.idx (.var 5) (.var 7)) (.str [110, 117, 109, 98, 101, 114])) (.cons (.app 4 (.tup (.cons (.str [115, 104, 111, 119]) (.cons (.var 2) (.cons (.tup (.cons (.tup (.cons (.var 7) (.cons (.tup (.cons (.str [112, 108, 117, 115]) (.cons (.var 9) (.cons (.tup (.cons (.str [110, 117, 109, 98, 101, 114]) (.cons (.int 1) .nil))) .nil)))) .nil))) .nil)) .nil)))))
  .nil) .nil)
  (.cons (.freeze 4)
  (.cons (.ret (.call 30 (.cons (.var 0) (.cons (.var 4) .nil))))
  .nil)))))))))))), false⟩
def n_law_crooked : List String := ["well", "frame", "ask", "conds", "asks", "cols", "part", "name", "near", "one", "other", "turn"]
def p_law_crooked : Nat := 3
/-- _law_within: well=0 frame=1 ask=2 part=3 way=4 -/
def f_law_within : Df := ⟨3, 5, (.cons (.par2 3 4 false false (.tup (.cons (.str [116, 97, 98, 108, 101]) (.cons (.idx (.call 30 (.cons (.var 0) (.cons (.idx (.var 1) (.int 0)) .nil))) (.int 0)) (.cons (.str [121, 121]) .nil)))) (.call 29 (.cons (.var 0) (.cons (.int 6) .nil))))
  (.cons (.ite (.cmp .eq (.var 4) (.int 0)) (.cons (.ret (.tup (.cons (.str [111, 110, 99, 101]) (.cons (.var 2) .nil))))
  .nil) .nil)
  (.cons (.ite (.cmp .eq (.var 4) (.int 1)) (.cons (.ret (.tup (.cons (.str [106, 111, 105, 110]) (.cons (.var 3) (.cons (.var 2) (.cons (.tup (.cons (.str [121, 101, 115]) .nil)) .nil))))))
  .nil) .nil)
  (.cons (.ite (.cmp .eq (.var 4) (.int 2)) (.cons (.ret (.tup (.cons (.str [104, 97, 108, 102]) (.cons (.var 3) (.cons (.var 2) (.cons (.tup (.cons (.str [121, 101, 115]) .nil)) .nil))))))
  .nil) .nil)
  (.cons (.ite (.cmp .eq (.var 4) (.int 3)) (.cons (.ret (.tup (.cons (.str [97, 100, 100]) (.cons (.var 2) (.cons (.var 2) .nil)))))
  .nil) .nil)
  (.cons (.ret (.ite (.cmp .eq (.var 4) (.int 4)) (.tup (.cons (.str [112, 105, 99, 107]) (.cons (.var 3) (.cons (.tup (.cons (.str [115, 111, 109, 101]) (.cons (.var 2) (.cons (.tup (.cons (.str [121, 101, 115]) .nil)) .nil)))) .nil)))) (.var 2)))
  .nil)))))), false⟩
def n_law_within : List String := ["well", "frame", "ask", "part", "way"]
def p_law_within : Nat := 3
/-- law: script=0 well=1 turn=2 frame=3 ask=4 kept=5 lap=6 wrong=7 bad=8 other=9 name=10 kind=11 maybe=12 -/
def f_law : Df := ⟨1, 13, (.cons (.asg (.nm 1) (.call 32 (.cons (.var 0) .nil)))
  (.cons (.for_ (.nm 2) (.range1 (.int 4)) (.cons (.asg (.nm 3) (.call 35 (.cons (.var 1) .nil)))
  (.cons (.setR (.var 1) (.int 4) (.int 0))
  (.cons (.asg (.nm 4) (.call 41 (.cons (.var 1) (.cons (.var 3) (.cons (.int 3) .nil)))))
  (.cons (.asg (.nm 5) (.bi .repr (.tup (.cons (.var 3) (.cons (.var 4) .nil)))))
  (.cons (.ite (.or_ (.cmp .isnot (.call 27 (.cons (.var 3) (.cons (.var 4) .nil))) (.bl true)) (.not_ (.call 44 (.cons (.var 4) .nil)))) (.cons (.ret (.bl false))
  .nil) .nil)
  (.cons (.for_ (.nm 6) (.range1 (.int 4)) (.cons (.asg (.nm 9) (.call 46 (.cons (.var 1) (.cons (.var 3) (.cons (.call 45 (.cons (.var 1) (.cons (.var 3) (.cons (.var 4) .nil)))) .nil)))))
  (.cons (.ite (.cmp .ne (.bi .repr (.call 27 (.cons (.var 3) (.cons (.var 9) .nil)))) (.bi .repr (.call 44 (.cons (.var 9) .nil)))) (.cons (.ret (.bl false))
  .nil) .nil)
  .nil)))
  (.cons (.asg (.tup [(.nm 10), (.nm 11), (.nm 12)]) (.idx (.idx (.idx (.idx (.var 3) (.int 0)) (.int 0)) (.int 1)) (.int 0)))
  (.cons (.asg (.nm 7) (.ite (.cmp .eq (.var 11) (.str [110, 117, 109, 98, 101, 114])) (.tup (.cons (.str [116, 101, 120, 116]) (.cons (.str [97]) .nil))) (.tup (.cons (.str [110, 117, 109, 98, 101, 114]) (.cons (.int 1) .nil)))))
  (.cons (.asg (.nm 8) (.lst (.cons .non (.cons (.int 5) (.cons (.str [116, 97, 98, 108, 101]) (.cons (.tup .nil) (.cons (.lst (.cons (.str [116, 97, 98, 108, 101]) (.cons (.idx (.idx (.idx (.var 3) (.int 0)) (.int 0)) (.int 0)) (.cons (.str [97, 98]) .nil)))) (.cons (.tup (.cons (.str [116, 97, 98, 108, 101]) (.cons (.str [110, 111, 110, 101]) (.cons (.str [97, 98]) .nil)))) (.cons (.tup (.cons (.str [111, 110, 99, 101]) (.cons (.var 4) (.cons (.var 4) .nil)))) (.cons (.tup (.cons (.str [112, 105, 99, 107]) (.cons (.var 4) (.cons (.tup (.cons (.str [105, 115]) (.cons (.tup (.cons (.str [99, 111, 108, 117, 109, 110]) (.cons (.str [110, 111]) .nil))) (.cons (.tup (.cons (.str [110, 117, 109, 98, 101, 114]) (.cons (.int 1) .nil))) .nil)))) .nil)))) .nil))))))))))
  (.cons (.asg (.nm 8) (.op .add (.var 8) (.lst (.cons (.tup (.cons (.str [112, 105, 99, 107]) (.cons (.tup (.cons (.str [116, 97, 98, 108, 101]) (.cons (.idx (.idx (.idx (.var 3) (.int 0)) (.int 0)) (.int 0)) (.cons (.str [97, 98]) .nil)))) (.cons (.tup (.cons (.str [105, 115]) (.cons (.tup (.cons (.str [99, 111, 108, 117, 109, 110]) (.cons (.op .add (.str [97, 98, 46]) (.var 10)) .nil))) (.cons (.var 7) .nil)))) .nil)))) (.cons (.tup (.cons (.str [106, 111, 105, 110]) (.cons (.var 4) (.cons (.var 4) (.cons (.tup (.cons (.str [121, 101, 115]) .nil)) .nil))))) (.cons (.tup (.cons (.str [97, 100, 100]) (.cons (.var 4) .nil))) .nil))))))
  (.cons (.spec 0)
  .nil))))))))))))
  (.cons (.ret (.bl true))
  .nil))), false⟩
def n_law : List String := ["script", "well", "turn", "frame", "ask", "kept", "lap", "wrong", "bad", "other", "name", "kind", "maybe"]
def p_law : Nat := 1
def dfs : List Df := [f_is_whole, f_is_text, f_is_word, f_table_named, f_is_name, f_plain_kind, f_kind_in, f_need, f_kinds_of, f_need_compared, f_need_cond, f_of_table, f_of_show, f_of_both, f_of_tell, f_of_group, f_of_add, f_need_keys, f_of_first, f_of_pick, f_of_any, f_columns, f_conjuncts, f_is_told, f_is_straight_part, f_is_straight_cond, f_is_straight_form, f_is_straight, f_law_well, f_law_draw, f_law_one, f_law_letters, f_law_begun, f_law_table, f_law_points, f_law_frame, f_law_named, f_law_kinds, f_law_sum, f_law_is, f_law_straight_cond, f_law_straight, f_law_is_sum, f_law_is_cond, f_law_is_ask, f_law_crooked, f_law_within, f_law]
def nms : List (String × List String × Nat) := [("is_whole", n_is_whole, p_is_whole), ("is_text", n_is_text, p_is_text), ("is_word", n_is_word, p_is_word), ("table_named", n_table_named, p_table_named), ("is_name", n_is_name, p_is_name), ("plain_kind", n_plain_kind, p_plain_kind), ("kind_in", n_kind_in, p_kind_in), ("need", n_need, p_need), ("kinds_of", n_kinds_of, p_kinds_of), ("need_compared", n_need_compared, p_need_compared), ("need_cond", n_need_cond, p_need_cond), ("of_table", n_of_table, p_of_table), ("of_show", n_of_show, p_of_show), ("of_both", n_of_both, p_of_both), ("of_tell", n_of_tell, p_of_tell), ("of_group", n_of_group, p_of_group), ("of_add", n_of_add, p_of_add), ("need_keys", n_need_keys, p_need_keys), ("of_first", n_of_first, p_of_first), ("of_pick", n_of_pick, p_of_pick), ("of_any", n_of_any, p_of_any), ("columns", n_columns, p_columns), ("conjuncts", n_conjuncts, p_conjuncts), ("is_told", n_is_told, p_is_told), ("is_straight_part", n_is_straight_part, p_is_straight_part), ("is_straight_cond", n_is_straight_cond, p_is_straight_cond), ("is_straight_form", n_is_straight_form, p_is_straight_form), ("is_straight", n_is_straight, p_is_straight), ("_law_well", n_law_well, p_law_well), ("_law_draw", n_law_draw, p_law_draw), ("_law_one", n_law_one, p_law_one), ("_law_letters", n_law_letters, p_law_letters), ("_law_begun", n_law_begun, p_law_begun), ("_law_table", n_law_table, p_law_table), ("_law_points", n_law_points, p_law_points), ("_law_frame", n_law_frame, p_law_frame), ("_law_named", n_law_named, p_law_named), ("_law_kinds", n_law_kinds, p_law_kinds), ("_law_sum", n_law_sum, p_law_sum), ("_law_is", n_law_is, p_law_is), ("_law_straight_cond", n_law_straight_cond, p_law_straight_cond), ("_law_straight", n_law_straight, p_law_straight), ("_law_is_sum", n_law_is_sum, p_law_is_sum), ("_law_is_cond", n_law_is_cond, p_law_is_cond), ("_law_is_ask", n_law_is_ask, p_law_is_ask), ("_law_crooked", n_law_crooked, p_law_crooked), ("_law_within", n_law_within, p_law_within), ("law", n_law, p_law)]
def globs : List EV := [(.str [110, 117, 109, 98, 101, 114]), (.str [116, 101, 120, 116]), (.str [97, 98, 99, 100, 101, 102, 103, 104, 105, 106, 107, 108, 109, 110, 111, 112, 113, 114, 115, 116, 117, 118, 119, 120, 121, 122]), (.int 8), (.tup [(.str [112, 108, 117, 115]), (.str [109, 105, 110, 117, 115]), (.str [116, 105, 109, 101, 115])]), (.tup [(.str [116, 97, 98, 108, 101]), (.str [112, 105, 99, 107]), (.str [115, 104, 111, 119]), (.str [106, 111, 105, 110]), (.str [104, 97, 108, 102]), (.str [111, 110, 99, 101]), (.str [97, 100, 100])]), (.tup [(.str [99, 111, 108, 117, 109, 110]), (.str [110, 117, 109, 98, 101, 114]), (.str [116, 101, 120, 116]), (.str [110, 111, 116, 104, 105, 110, 103])])]
def globN : List String := ["NUMBER", "TEXT", "LETTERS", "LONGEST", "REACHES", "WORDS", "SUMS"]
def dcts : List (List K0 × List EV) := [([.s [116, 97, 98, 108, 101], .s [112, 105, 99, 107], .s [115, 104, 111, 119], .s [106, 111, 105, 110], .s [108, 101, 102, 116], .s [104, 97, 108, 102], .s [108, 97, 99, 107], .s [111, 110, 99, 101], .s [103, 114, 111, 117, 112], .s [97, 100, 100], .s [102, 105, 114, 115, 116]], [(.int 3), (.int 3), (.int 3), (.int 4), (.int 4), (.int 4), (.int 4), (.int 2), (.int 4), (.int 3), (.int 4)]), ([.s [121, 101, 115], .s [105, 115], .s [108, 101, 115, 115], .s [105, 115, 110, 111, 116, 104, 105, 110, 103], .s [110, 111, 116], .s [98, 111, 116, 104], .s [101, 105, 116, 104, 101, 114], .s [115, 111, 109, 101]], [(.int 1), (.int 3), (.int 3), (.int 2), (.int 2), (.int 3), (.int 3), (.int 3)])]
def dctN : List String := ["SIZES", "COND_SIZES"]
end K64

namespace K64
open Ev
def heard (cf : Nat → List EV → Hh → Res EV) (one str : Nat) (w b f : EV) (h : Hh) : Res EV := match (cf one [w, b] h).bind fun v h => cf str [f, v] h with
  | .ok r h => .ok (.tup [.str [116, 111, 108, 100], r]) h
  | .exc 0 h => .ok (.tup [.str [97, 115, 107]]) h
  | .exc _ h => .ok (.tup [.str [111, 116, 104, 101, 114]]) h
  | .bad => .bad
def specL (C : Cxt) (one str : Nat) : MS := fun env h => match valAt env 1, valAt env 8, valAt env 3 with
  | some w, some b, some f => (heard C.callF one str w b f h).s fun r h => (match opNe r (.tup [.str [97, 115, 107]]) h with
    | .ok (.bl true) h => .rt (.bl false) h
    | .ok (.bl false) h => (ev C (.cmp .ne (.bi .repr (.tup (.cons (.var 3) (.cons (.var 4) .nil)))) (.var 5)) env h).s fun v h => (match v with
      | .bl true => .rt (.bl false) h
      | .bl false => .nx env h
      | _ => .bad)
    | _ => .bad)
  | _, _, _ => .bad
def cx0 (k : List EV → Nat → Hh → Res EV) (sp : Nat → MS) : Cxt := ⟨fun f args h => k args f h, fun g => globs.getD g .non, fun g => dcts.getD g ([], []), sp⟩
def cx : Nat → Cxt
  | 0 => cx0 (fun _ _ _ => .bad) fun _ _ _ => .bad
  | k + 1 => cx0 (fun args f h => (match dfs[f]? with
      | some d => runDf (cx k) d args h
      | none => .bad)) fun _ => specL (cx0 (fun args f h => (match dfs[f]? with
      | some d => runDf (cx k) d args h
      | none => .bad)) fun _ _ _ => .bad) 30 27
def runLaw (xs : List Int) : String := match (cx 60).callF 47 [.fro (xs.map .int)] [] with
  | .ok (.bl b) _ => if b then "T" else "F"
  | .ok _ _ => "other"
  | .exc c _ => s!"exc {c}"
  | .bad => "bad"
end K64
end
section
set_option Elab.async false
set_option linter.all false
set_option maxRecDepth 100000
/-! K64g: the program's defs beside their own forms. -/
noncomputable section
namespace K64
open PySem EvS
def bodyP : List Stmt := PySem.Challenge.pw_everybook_k64_straight_asks_and_others.main.body
def stOf (x : Str) : Stmt := (bodyP.find? fun s => match s with
  | .FunctionDef n _ _ _ _ _ _ _ _ _ => n == x
  | _ => false).getD (.Pass ⟨0, 0, 0, 0⟩)
def sS (x : String) : Str := Str.ofString x
def dd (p : (String × List String × Nat) × Ev.Df) : DD := ⟨sS p.1.1, sS p.1.1, stOf (sS p.1.1), p.1.2.1.map sS, (p.1.2.1.take p.1.2.2).map sS, p.2⟩
def ddsAll : List DD := (nms.zip dfs).map dd
def dds : List DD := ddsAll.take 47
def dLaw : DD := dd (("law", n_law, p_law), f_law)
def gF : List (Str × (Nat × Nat × Bool)) := ((nms.zip dfs).take 47).zipIdx.map fun p => (sS p.1.1.1, (p.2, p.1.2.np, p.1.2.fresh))
def gG : List (Str × Nat) := globN.zipIdx.map fun p => (sS p.1, p.2)
def gD : List (Str × Nat) := dctN.zipIdx.map fun p => (sS p.1, p.2)
def gB : List Str := ["len", "int", "abs", "all", "sorted", "tuple", "list", "dict", "isinstance", "repr", "range", "enumerate", "zip", "bool", "str"].map sS
def G : Gs := ⟨gF, gG, gD, gB, [(sS "NoAsk", 0)], [], false, fun _ _ => false⟩
end K64
end
end
section
set_option Elab.async false
set_option linter.all false
set_option maxRecDepth 100000
set_option maxHeartbeats 0
/-! K64h: the head of k64. -/
noncomputable section
namespace K64H
open PySem PySem.Spec PyProof.Rows L2 EvS
abbrev Pr : Program := PySem.Challenge.pw_everybook_k64_straight_asks_and_others
def defOf (d : DD) : He.DefD := ⟨(d.x, none), d.x, d.qual, defArgs d.st, defBody d.st, defScope d.st, [], []⟩
def dHeard : He.DefD := ⟨("_law_heard", none), "_law_heard", "_law_heard", defArgs (K64.stOf "_law_heard"), defBody (K64.stOf "_law_heard"), defScope (K64.stOf "_law_heard"), [], []⟩
def fn : List He.DefD := K64.ddsAll.map defOf ++ [dHeard]
def S64 (s : Ev.S) : Str := toS s
def conFa : List He.Fa := [.str "NUMBER" "number", .str "TEXT" "text", .str "LETTERS" "abcdefghijklmnopqrstuvwxyz", .int "LONGEST" 8, .glo "REACHES", .glo "WORDS", .glo "SUMS", .glo "SIZES", .glo "COND_SIZES"]
def excFa : List He.Fa := [.glo "PlanError", .glo "NoAsk", .glo "NoSpan", .glo "TooMany", .exc "NoAsk", .keep "NoAsk", .exm "NoAsk" "PlanError" true]
def fa : List He.Fa := fn.map (fun d => .glo d.at_.1) ++ K64.gB.map (fun x => .free x) ++ conFa ++ excFa
def dvS (l : List String) : List He.Dv := l.map fun s => .str (Str.ofString s)
def exB (K : PySem.W.Frag) : Bool := He.tupB K "REACHES" (dvS ["plus", "minus", "times"]) && He.tupB K "WORDS" (dvS ["table", "pick", "show", "join", "half", "once", "add"]) && He.tupB K "SUMS" (dvS ["column", "number", "text", "nothing"])
def sizes : List (Str × Int) := [("table", 3), ("pick", 3), ("show", 3), ("join", 4), ("left", 4), ("half", 4), ("lack", 4), ("once", 2), ("group", 4), ("add", 3), ("first", 4)]
def condSizes : List (Str × Int) := [("yes", 1), ("is", 3), ("less", 3), ("isnothing", 2), ("not", 2), ("both", 3), ("either", 3), ("some", 3)]
def excCB (K : PySem.W.Frag) (D : Addr) : Bool :=
  He.eqO (PySem.W.findIn K (.ref D) "__getattribute__") (some (some (.builtin "BaseException.__getattribute__"))) && (He.eqO (PySem.W.findIn K (.ref D) "__getattr__") (some none) && (decide (PySem.W.subIn K (.ref D) (.type "BaseException") = some true) && (PySem.W.hasDictIn K D &&
  (He.eqO (PySem.W.findIn K (.ref D) "__class__") (some (some (.builtin "object.__class__"))) && (He.eqO (PySem.W.specialIn K (.builtin "object.__class__") "__get__") (some (some (.builtin "getset_descriptor.__get__"))) && (decide (PySem.W.takesIn K (.builtin "object.__class__") = some true) && decide (PySem.W.mroIn K D (.type "object") = some true)))))))
theorem excCB_ok {K : PySem.W.Frag} {D : Addr} (h : excCB K D = true) : ExcC K D := by
  unfold excCB at h
  simp only [Bool.and_eq_true] at h
  obtain ⟨h1, h2, h3, h4, h5, h6, h7, h8⟩ := h
  exact ⟨He.eqO_ok h1, He.eqO_ok h2, of_decide_eq_true h3, h4, He.eqO_ok h5, He.eqO_ok h6, of_decide_eq_true h7, of_decide_eq_true h8⟩
def isB (K : PySem.W.Frag) (x y : Str) (b : Bool) : Bool := decide (PySem.W.kitOne K (.ref (He.ga K x)) (.ref (He.ga K y)) = some b)
def noAskB (K : PySem.W.Frag) : Bool := excCB K (He.ga K "NoAsk") && (isB K "NoAsk" "NoSpan" false && (isB K "NoAsk" "TooMany" false && isB K "NoAsk" "NoAsk" true))
def exAll (K : PySem.W.Frag) : Bool := exB K && (noAskB K && (He.valsB K (He.ga K "SIZES") (sizes.map fun p => (p.1, .int p.2)) && He.valsB K (He.ga K "COND_SIZES") (condSizes.map fun p => (p.1, .int p.2))))
def ts : List He.Tab := [(fun K => He.ga K "SIZES", sizes.map (·.1)), (fun K => He.ga K "COND_SIZES", condSizes.map (·.1))]
def tf : List He.Defn := [("law", none)]
abbrev R : PySem.W.OpenRow := PySem.W.OpenLaw.row PySem.Challenge.rw_everybook_k64_straight_asks_and_others
abbrev hk : PySem.W.Hook := He.hookX 3 fa fn ts tf exAll
def ob (s : PySem.W.SharedT) : He.AlX := He.obsX 3 fa fn ts tf exAll (HandSHeadRun.getT s)
theorem ob_eq (s : PySem.W.SharedT) : ob s = hk.obs s.abs := He.obsX_eq (HandSHeadRun.getT_eq s)
def nm1 : List Str := ["PlanError", "NoAsk", "NoSpan", "TooMany", "NUMBER", "TEXT", "is_whole", "is_text", "LETTERS", "LONGEST", "is_word", "table_named", "REACHES", "is_name", "plain_kind", "kind_in", "SIZES", "COND_SIZES", "need", "kinds_of", "need_compared", "need_cond", "of_table", "of_show", "of_both", "of_tell", "of_group", "of_add"]
def nm2 : List Str := ["need_keys", "of_first", "of_pick", "of_any", "columns", "conjuncts", "WORDS", "SUMS", "is_told", "is_straight_part", "is_straight_cond", "is_straight_form", "is_straight", "_law_well", "_law_draw", "_law_one", "_law_letters", "_law_begun", "_law_table", "_law_points", "_law_frame", "_law_named", "_law_spots", "_law_keeps", "_law_value", "_law_book", "_law_lessened"]
def nm3 : List Str := ["_law_kinds", "_law_sum", "_law_is", "_law_straight_cond", "_law_straight", "_law_heard", "_law_is_sum", "_law_is_cond", "_law_is_ask", "_law_crooked", "_law_within"]
def loose : List Str := nm1 ++ (nm2 ++ nm3)
theorem runF (w : World) : HandSHeadRun.RunEq R (PySem.W.view R.prog [74]) hk ob 3000 loose (w.withFollow "special-get-raises" false) := by
  intro os
  kernel_rfl
theorem runT (w : World) : HandSHeadRun.RunEq R (PySem.W.view R.prog [74]) hk ob 3000 loose (w.withFollow "special-get-raises" true) := by
  intro os
  kernel_rfl
theorem run (w : World) : HandSHeadRun.RunEq R (PySem.W.view R.prog [74]) hk ob 3000 loose w := PySem.W.byRow2 "special-get-raises" runF runT w
end K64H
end
end
section
set_option Elab.async false
set_option linter.all false
set_option maxRecDepth 100000
set_option maxHeartbeats 0
/-! K64j: how each def binds its arguments (printed). -/
noncomputable section
namespace K64H
open PySem PySem.Spec PyProof.Rows L2 EvS
def Bd (x : Str) (st : Stmt) (ps : List Str) : Prop := ∀ (kV doc pm : Value) (an : Option Addr) (cdv ct : Value) (us : List Value), us.length = ps.length → bindArgs (PySem.W.fnOf x x (defArgs st) (defBody st) (defScope st) .none kV doc pm an cdv ct) ⟨us, []⟩ = pure (ps.zip us)
theorem bd0 : Bd (K64.sS "is_whole") (K64.stOf (K64.sS "is_whole")) (K64.n_is_whole.take K64.p_is_whole |>.map K64.sS) := fun _ _ _ _ _ _ us hl => match us, hl with | [_], _ => by kernel_rfl
theorem bd1 : Bd (K64.sS "is_text") (K64.stOf (K64.sS "is_text")) (K64.n_is_text.take K64.p_is_text |>.map K64.sS) := fun _ _ _ _ _ _ us hl => match us, hl with | [_], _ => by kernel_rfl
theorem bd2 : Bd (K64.sS "is_word") (K64.stOf (K64.sS "is_word")) (K64.n_is_word.take K64.p_is_word |>.map K64.sS) := fun _ _ _ _ _ _ us hl => match us, hl with | [_], _ => by kernel_rfl
theorem bd3 : Bd (K64.sS "table_named") (K64.stOf (K64.sS "table_named")) (K64.n_table_named.take K64.p_table_named |>.map K64.sS) := fun _ _ _ _ _ _ us hl => match us, hl with | [_, _], _ => by kernel_rfl
theorem bd4 : Bd (K64.sS "is_name") (K64.stOf (K64.sS "is_name")) (K64.n_is_name.take K64.p_is_name |>.map K64.sS) := fun _ _ _ _ _ _ us hl => match us, hl with | [_], _ => by kernel_rfl
theorem bd5 : Bd (K64.sS "plain_kind") (K64.stOf (K64.sS "plain_kind")) (K64.n_plain_kind.take K64.p_plain_kind |>.map K64.sS) := fun _ _ _ _ _ _ us hl => match us, hl with | [_], _ => by kernel_rfl
theorem bd6 : Bd (K64.sS "kind_in") (K64.stOf (K64.sS "kind_in")) (K64.n_kind_in.take K64.p_kind_in |>.map K64.sS) := fun _ _ _ _ _ _ us hl => match us, hl with | [_, _], _ => by kernel_rfl
theorem bd7 : Bd (K64.sS "need") (K64.stOf (K64.sS "need")) (K64.n_need.take K64.p_need |>.map K64.sS) := fun _ _ _ _ _ _ us hl => match us, hl with | [_], _ => by kernel_rfl
theorem bd8 : Bd (K64.sS "kinds_of") (K64.stOf (K64.sS "kinds_of")) (K64.n_kinds_of.take K64.p_kinds_of |>.map K64.sS) := fun _ _ _ _ _ _ us hl => match us, hl with | [_], _ => by kernel_rfl
theorem bd9 : Bd (K64.sS "need_compared") (K64.stOf (K64.sS "need_compared")) (K64.n_need_compared.take K64.p_need_compared |>.map K64.sS) := fun _ _ _ _ _ _ us hl => match us, hl with | [_, _], _ => by kernel_rfl
theorem bd10 : Bd (K64.sS "need_cond") (K64.stOf (K64.sS "need_cond")) (K64.n_need_cond.take K64.p_need_cond |>.map K64.sS) := fun _ _ _ _ _ _ us hl => match us, hl with | [_, _, _], _ => by kernel_rfl
theorem bd11 : Bd (K64.sS "of_table") (K64.stOf (K64.sS "of_table")) (K64.n_of_table.take K64.p_of_table |>.map K64.sS) := fun _ _ _ _ _ _ us hl => match us, hl with | [_, _], _ => by kernel_rfl
theorem bd12 : Bd (K64.sS "of_show") (K64.stOf (K64.sS "of_show")) (K64.n_of_show.take K64.p_of_show |>.map K64.sS) := fun _ _ _ _ _ _ us hl => match us, hl with | [_, _], _ => by kernel_rfl
theorem bd13 : Bd (K64.sS "of_both") (K64.stOf (K64.sS "of_both")) (K64.n_of_both.take K64.p_of_both |>.map K64.sS) := fun _ _ _ _ _ _ us hl => match us, hl with | [_, _], _ => by kernel_rfl
theorem bd14 : Bd (K64.sS "of_tell") (K64.stOf (K64.sS "of_tell")) (K64.n_of_tell.take K64.p_of_tell |>.map K64.sS) := fun _ _ _ _ _ _ us hl => match us, hl with | [_, _], _ => by kernel_rfl
theorem bd15 : Bd (K64.sS "of_group") (K64.stOf (K64.sS "of_group")) (K64.n_of_group.take K64.p_of_group |>.map K64.sS) := fun _ _ _ _ _ _ us hl => match us, hl with | [_, _], _ => by kernel_rfl
theorem bd16 : Bd (K64.sS "of_add") (K64.stOf (K64.sS "of_add")) (K64.n_of_add.take K64.p_of_add |>.map K64.sS) := fun _ _ _ _ _ _ us hl => match us, hl with | [_, _], _ => by kernel_rfl
theorem bd17 : Bd (K64.sS "need_keys") (K64.stOf (K64.sS "need_keys")) (K64.n_need_keys.take K64.p_need_keys |>.map K64.sS) := fun _ _ _ _ _ _ us hl => match us, hl with | [_, _], _ => by kernel_rfl
theorem bd18 : Bd (K64.sS "of_first") (K64.stOf (K64.sS "of_first")) (K64.n_of_first.take K64.p_of_first |>.map K64.sS) := fun _ _ _ _ _ _ us hl => match us, hl with | [_, _], _ => by kernel_rfl
theorem bd19 : Bd (K64.sS "of_pick") (K64.stOf (K64.sS "of_pick")) (K64.n_of_pick.take K64.p_of_pick |>.map K64.sS) := fun _ _ _ _ _ _ us hl => match us, hl with | [_, _], _ => by kernel_rfl
theorem bd20 : Bd (K64.sS "of_any") (K64.stOf (K64.sS "of_any")) (K64.n_of_any.take K64.p_of_any |>.map K64.sS) := fun _ _ _ _ _ _ us hl => match us, hl with | [_, _], _ => by kernel_rfl
theorem bd21 : Bd (K64.sS "columns") (K64.stOf (K64.sS "columns")) (K64.n_columns.take K64.p_columns |>.map K64.sS) := fun _ _ _ _ _ _ us hl => match us, hl with | [_, _], _ => by kernel_rfl
theorem bd22 : Bd (K64.sS "conjuncts") (K64.stOf (K64.sS "conjuncts")) (K64.n_conjuncts.take K64.p_conjuncts |>.map K64.sS) := fun _ _ _ _ _ _ us hl => match us, hl with | [_], _ => by kernel_rfl
theorem bd23 : Bd (K64.sS "is_told") (K64.stOf (K64.sS "is_told")) (K64.n_is_told.take K64.p_is_told |>.map K64.sS) := fun _ _ _ _ _ _ us hl => match us, hl with | [_], _ => by kernel_rfl
theorem bd24 : Bd (K64.sS "is_straight_part") (K64.stOf (K64.sS "is_straight_part")) (K64.n_is_straight_part.take K64.p_is_straight_part |>.map K64.sS) := fun _ _ _ _ _ _ us hl => match us, hl with | [_], _ => by kernel_rfl
theorem bd25 : Bd (K64.sS "is_straight_cond") (K64.stOf (K64.sS "is_straight_cond")) (K64.n_is_straight_cond.take K64.p_is_straight_cond |>.map K64.sS) := fun _ _ _ _ _ _ us hl => match us, hl with | [_], _ => by kernel_rfl
theorem bd26 : Bd (K64.sS "is_straight_form") (K64.stOf (K64.sS "is_straight_form")) (K64.n_is_straight_form.take K64.p_is_straight_form |>.map K64.sS) := fun _ _ _ _ _ _ us hl => match us, hl with | [_], _ => by kernel_rfl
theorem bd27 : Bd (K64.sS "is_straight") (K64.stOf (K64.sS "is_straight")) (K64.n_is_straight.take K64.p_is_straight |>.map K64.sS) := fun _ _ _ _ _ _ us hl => match us, hl with | [_, _], _ => by kernel_rfl
theorem bd28 : Bd (K64.sS "_law_well") (K64.stOf (K64.sS "_law_well")) (K64.n_law_well.take K64.p_law_well |>.map K64.sS) := fun _ _ _ _ _ _ us hl => match us, hl with | [_], _ => by kernel_rfl
theorem bd29 : Bd (K64.sS "_law_draw") (K64.stOf (K64.sS "_law_draw")) (K64.n_law_draw.take K64.p_law_draw |>.map K64.sS) := fun _ _ _ _ _ _ us hl => match us, hl with | [_, _], _ => by kernel_rfl
theorem bd30 : Bd (K64.sS "_law_one") (K64.stOf (K64.sS "_law_one")) (K64.n_law_one.take K64.p_law_one |>.map K64.sS) := fun _ _ _ _ _ _ us hl => match us, hl with | [_, _], _ => by kernel_rfl
theorem bd31 : Bd (K64.sS "_law_letters") (K64.stOf (K64.sS "_law_letters")) (K64.n_law_letters.take K64.p_law_letters |>.map K64.sS) := fun _ _ _ _ _ _ us hl => match us, hl with | [_, _], _ => by kernel_rfl
theorem bd32 : Bd (K64.sS "_law_begun") (K64.stOf (K64.sS "_law_begun")) (K64.n_law_begun.take K64.p_law_begun |>.map K64.sS) := fun _ _ _ _ _ _ us hl => match us, hl with | [_], _ => by kernel_rfl
theorem bd33 : Bd (K64.sS "_law_table") (K64.stOf (K64.sS "_law_table")) (K64.n_law_table.take K64.p_law_table |>.map K64.sS) := fun _ _ _ _ _ _ us hl => match us, hl with | [_, _], _ => by kernel_rfl
theorem bd34 : Bd (K64.sS "_law_points") (K64.stOf (K64.sS "_law_points")) (K64.n_law_points.take K64.p_law_points |>.map K64.sS) := fun _ _ _ _ _ _ us hl => match us, hl with | [_, _], _ => by kernel_rfl
theorem bd35 : Bd (K64.sS "_law_frame") (K64.stOf (K64.sS "_law_frame")) (K64.n_law_frame.take K64.p_law_frame |>.map K64.sS) := fun _ _ _ _ _ _ us hl => match us, hl with | [_], _ => by kernel_rfl
theorem bd36 : Bd (K64.sS "_law_named") (K64.stOf (K64.sS "_law_named")) (K64.n_law_named.take K64.p_law_named |>.map K64.sS) := fun _ _ _ _ _ _ us hl => match us, hl with | [_, _], _ => by kernel_rfl
theorem bd37 : Bd (K64.sS "_law_kinds") (K64.stOf (K64.sS "_law_kinds")) (K64.n_law_kinds.take K64.p_law_kinds |>.map K64.sS) := fun _ _ _ _ _ _ us hl => match us, hl with | [_, _], _ => by kernel_rfl
theorem bd38 : Bd (K64.sS "_law_sum") (K64.stOf (K64.sS "_law_sum")) (K64.n_law_sum.take K64.p_law_sum |>.map K64.sS) := fun _ _ _ _ _ _ us hl => match us, hl with | [_, _, _], _ => by kernel_rfl
theorem bd39 : Bd (K64.sS "_law_is") (K64.stOf (K64.sS "_law_is")) (K64.n_law_is.take K64.p_law_is |>.map K64.sS) := fun _ _ _ _ _ _ us hl => match us, hl with | [_, _, _], _ => by kernel_rfl
theorem bd40 : Bd (K64.sS "_law_straight_cond") (K64.stOf (K64.sS "_law_straight_cond")) (K64.n_law_straight_cond.take K64.p_law_straight_cond |>.map K64.sS) := fun _ _ _ _ _ _ us hl => match us, hl with | [_, _, _, _], _ => by kernel_rfl
theorem bd41 : Bd (K64.sS "_law_straight") (K64.stOf (K64.sS "_law_straight")) (K64.n_law_straight.take K64.p_law_straight |>.map K64.sS) := fun _ _ _ _ _ _ us hl => match us, hl with | [_, _, _], _ => by kernel_rfl
theorem bd42 : Bd (K64.sS "_law_is_sum") (K64.stOf (K64.sS "_law_is_sum")) (K64.n_law_is_sum.take K64.p_law_is_sum |>.map K64.sS) := fun _ _ _ _ _ _ us hl => match us, hl with | [_], _ => by kernel_rfl
theorem bd43 : Bd (K64.sS "_law_is_cond") (K64.stOf (K64.sS "_law_is_cond")) (K64.n_law_is_cond.take K64.p_law_is_cond |>.map K64.sS) := fun _ _ _ _ _ _ us hl => match us, hl with | [_], _ => by kernel_rfl
theorem bd44 : Bd (K64.sS "_law_is_ask") (K64.stOf (K64.sS "_law_is_ask")) (K64.n_law_is_ask.take K64.p_law_is_ask |>.map K64.sS) := fun _ _ _ _ _ _ us hl => match us, hl with | [_], _ => by kernel_rfl
theorem bd45 : Bd (K64.sS "_law_crooked") (K64.stOf (K64.sS "_law_crooked")) (K64.n_law_crooked.take K64.p_law_crooked |>.map K64.sS) := fun _ _ _ _ _ _ us hl => match us, hl with | [_, _, _], _ => by kernel_rfl
theorem bd46 : Bd (K64.sS "_law_within") (K64.stOf (K64.sS "_law_within")) (K64.n_law_within.take K64.p_law_within |>.map K64.sS) := fun _ _ _ _ _ _ us hl => match us, hl with | [_, _, _], _ => by kernel_rfl
theorem bd47 : Bd (K64.sS "law") (K64.stOf (K64.sS "law")) (K64.n_law.take K64.p_law |>.map K64.sS) := fun _ _ _ _ _ _ us hl => match us, hl with | [_], _ => by kernel_rfl
theorem bdH : Bd "_law_heard" (K64.stOf "_law_heard") ["ask"] := fun _ _ _ _ _ _ us hl => match us, hl with | [_], _ => by kernel_rfl
theorem bds : ∀ (i : Nat) (d : DD), K64.ddsAll[i]? = some d → Bd d.x d.st d.ps
  | 0, _, rfl => bd0
  | 1, _, rfl => bd1
  | 2, _, rfl => bd2
  | 3, _, rfl => bd3
  | 4, _, rfl => bd4
  | 5, _, rfl => bd5
  | 6, _, rfl => bd6
  | 7, _, rfl => bd7
  | 8, _, rfl => bd8
  | 9, _, rfl => bd9
  | 10, _, rfl => bd10
  | 11, _, rfl => bd11
  | 12, _, rfl => bd12
  | 13, _, rfl => bd13
  | 14, _, rfl => bd14
  | 15, _, rfl => bd15
  | 16, _, rfl => bd16
  | 17, _, rfl => bd17
  | 18, _, rfl => bd18
  | 19, _, rfl => bd19
  | 20, _, rfl => bd20
  | 21, _, rfl => bd21
  | 22, _, rfl => bd22
  | 23, _, rfl => bd23
  | 24, _, rfl => bd24
  | 25, _, rfl => bd25
  | 26, _, rfl => bd26
  | 27, _, rfl => bd27
  | 28, _, rfl => bd28
  | 29, _, rfl => bd29
  | 30, _, rfl => bd30
  | 31, _, rfl => bd31
  | 32, _, rfl => bd32
  | 33, _, rfl => bd33
  | 34, _, rfl => bd34
  | 35, _, rfl => bd35
  | 36, _, rfl => bd36
  | 37, _, rfl => bd37
  | 38, _, rfl => bd38
  | 39, _, rfl => bd39
  | 40, _, rfl => bd40
  | 41, _, rfl => bd41
  | 42, _, rfl => bd42
  | 43, _, rfl => bd43
  | 44, _, rfl => bd44
  | 45, _, rfl => bd45
  | 46, _, rfl => bd46
  | 47, _, rfl => bd47
  | n + 48, d, h => by cases h
end K64H
end
end
section
set_option autoImplicit false
set_option linter.all false
set_option maxRecDepth 100000
/-! P0: the plain side: modules, calls, simp rules of the evaluator. -/
namespace Pl
open Ev K64
structure Mo where
  df : Nat → Option Df
  glob : Nat → EV
  dct : Nat → List K0 × List EV
def Mo.cx (M : Mo) : Nat → Cxt
  | 0 => ⟨fun _ _ _ => .bad, M.glob, M.dct, fun _ _ _ => .bad⟩
  | k + 1 => ⟨fun f args h => (match M.df f with
      | some d => runDf (M.cx k) d args h
      | none => .bad), M.glob, M.dct, fun _ _ _ => .bad⟩
/-- the functions that several laws share -/
structure Has (M : Mo) : Prop where
  df : ∀ i d, i ≠ 29 → i < 47 → dfs[i]? = some d → M.df i = some d
  gl : ∀ i, i < 7 → M.glob i = globs.getD i .non
  dc : ∀ i, i < 2 → M.dct i = dcts.getD i ([], [])
section
variable {M : Mo}
theorem cx_gl : ∀ k, (M.cx k).glob = M.glob
  | 0 => rfl
  | _ + 1 => rfl
theorem cx_dc : ∀ k, (M.cx k).dct = M.dct
  | 0 => rfl
  | _ + 1 => rfl
theorem call_of {d : Df} {k f : Nat} {args : List EV} {h : Hh} (e : M.df f = some d) (hk : 0 < k) : (M.cx k).callF f args h = runDf (M.cx (k - 1)) d args h := by
  obtain ⟨j, rfl⟩ : ∃ j, k = j + 1 := ⟨k - 1, by omega⟩
  show (match M.df f with
    | some d => runDf (M.cx j) d args h
    | none => Res.bad) = _
  rw [e]; rfl
end
def keysOf : EV → Hh → Res (List EV)
  | .dct ks _, h => .ok (ks.map kEV) h
  | _, _ => .bad
/-! ### rules of the evaluator -/
section
variable (C : Cxt) (env : Env) (h : Hh)
@[simp] theorem ev_var (i : Nat) : ev C (.var i) env h = (match valAt env i with
    | some v => .ok v h
    | none => .bad) := (rfl)
@[simp] theorem ev_non : ev C .non env h = .ok .non h := (rfl)
@[simp] theorem ev_bl (b : Bool) : ev C (.bl b) env h = .ok (.bl b) h := (rfl)
@[simp] theorem ev_int (b : Int) : ev C (.int b) env h = .ok (.int b) h := (rfl)
@[simp] theorem ev_str (b : S) : ev C (.str b) env h = .ok (.str b) h := (rfl)
@[simp] theorem ev_glob (g : Nat) : ev C (.glob g) env h = .ok (C.glob g) h := (rfl)
@[simp] theorem ev_tup (es : Es) : ev C (.tup es) env h = (evs C es env h).bind fun xs h => if xs.length ≤ L then .ok (.tup xs) h else .bad := (rfl)
@[simp] theorem ev_lst (es : Es) : ev C (.lst es) env h = (evs C es env h).bind fun xs h => if xs.length ≤ L then .ok (.lst xs) h else .bad := (rfl)
@[simp] theorem ev_dnew : ev C .dnew env h = .ok (.dct [] []) h := (rfl)
@[simp] theorem ev_op (o : Op) (a b : E) : ev C (.op o a b) env h = (ev C a env h).bind fun x h => (ev C b env h).bind fun y h => o.run x y h := (rfl)
@[simp] theorem ev_neg (a : E) : ev C (.neg a) env h = (ev C a env h).bind fun x h => opNeg x h := (rfl)
@[simp] theorem ev_not (a : E) : ev C (.not_ a) env h = (ev C a env h).bind fun x h => (match x with
    | .bl b => okB (!b) h
    | _ => .bad) := (rfl)
@[simp] theorem ev_and (a b : E) : ev C (.and_ a b) env h = (ev C a env h).bind fun x h => (match x with
    | .bl true => ev C b env h
    | .bl false => okB false h
    | _ => .bad) := (rfl)
@[simp] theorem ev_or (a b : E) : ev C (.or_ a b) env h = (ev C a env h).bind fun x h => (match x with
    | .bl false => ev C b env h
    | .bl true => okB true h
    | _ => .bad) := (rfl)
@[simp] theorem ev_cmp (c : Cp) (a b : E) : ev C (.cmp c a b) env h = (ev C a env h).bind fun x h => (ev C b env h).bind fun y h => c.run x y h := (rfl)
@[simp] theorem ev_chain (a b e : E) (c d : Cp) : ev C (.chain a c b d e) env h = (ev C a env h).bind fun x h => (ev C b env h).bind fun y h => (c.run x y h).bind fun r h => (match r with
    | .bl true => (ev C e env h).bind fun z h => d.run y z h
    | .bl false => okB false h
    | _ => .bad) := (rfl)
@[simp] theorem ev_ite (t a b : E) : ev C (.ite t a b) env h = (ev C t env h).bind fun x h => (match x with
    | .bl true => ev C a env h
    | .bl false => ev C b env h
    | _ => .bad) := (rfl)
@[simp] theorem ev_idx (a b : E) : ev C (.idx a b) env h = (ev C a env h).bind fun x h => (ev C b env h).bind fun y h => opIdx x y h := (rfl)
@[simp] theorem ev_cut (a : E) (lo hi : Bd) : ev C (.cut a lo hi) env h = (ev C a env h).bind fun x h => (evb C lo env h).bind fun l h => (evb C hi env h).bind fun u h => opCut x l u h := (rfl)
@[simp] theorem ev_call (f : Nat) (es : Es) : ev C (.call f es) env h = (evs C es env h).bind fun xs h => C.callF f xs h := (rfl)
@[simp] theorem ev_bi (b : Bi) (a : E) : ev C (.bi b a) env h = (ev C a env h).bind fun x h => runBi b [x] h := (rfl)
@[simp] theorem ev_get (d k : E) : ev C (.get d k) env h = (ev C d env h).bind fun x h => (match x with
    | .dct ks vs => (ev C k env h).bind fun y h => (match keyOf y with
      | some q => .ok ((dget ks vs q).getD .non) h
      | none => .bad)
    | _ => .bad) := (rfl)
@[simp] theorem ev_split (a : E) (c : Nat) : ev C (.split a c) env h = (ev C a env h).bind fun x h => (match x with
    | .str s => if s.length + 2 ≤ L then .ok (.lst ((splitS c s).map .str)) h else .bad
    | _ => .bad) := (rfl)
@[simp] theorem ev_index (l x : E) : ev C (.index l x) env h = (ev C l env h).bind fun l h => (match l with
    | .lst xs => (ev C x env h).bind fun y h => if flat y && xs.all flat then (match xs.findIdx? (fun z => eqv z y) with
      | some j => .ok (.int j) h
      | none => .bad) else .bad
    | _ => .bad) := (rfl)
@[simp] theorem ev_comp (t : T) (own : List Nat) (s : Sr) (test elt : E) : ev C (.comp t own s test elt) env h = (src C s env h).bind fun xs h => (comps t (ev C test) (ev C elt) (wipe env own) xs [] h).bind fun ys h => .ok (.lst ys) h := (rfl)
@[simp] theorem ev_lenO (i : Nat) : ev C (.lenO i) env h = (match env[i]? with
    | some (some (.oL xs)) => .ok (.int xs.length) h
    | some (some (.oD ks _)) => .ok (.int ks.length) h
    | _ => .bad) := (rfl)
@[simp] theorem ev_idxO (i : Nat) (a : E) : ev C (.idxO i a) env h = (match env[i]? with
    | some (some (.oL xs)) => (ev C a env h).bind fun y h => (match y with
      | .int j => (match atX xs j with
        | some v => .ok v h
        | none => .bad)
      | _ => .bad)
    | _ => .bad) := (rfl)
@[simp] theorem ev_inO (a : E) (i : Nat) (neg : Bool) : ev C (.inO a i neg) env h = (match env[i]? with
    | some (some (.oD ks _)) => (ev C a env h).bind fun y h => (match keyOf y with
      | some k => okB (if neg then !decide (k ∈ ks) else decide (k ∈ ks)) h
      | none => .bad)
    | _ => .bad) := (rfl)
@[simp] theorem ev_inG (a : E) (g : Nat) : ev C (.inG a g) env h = (ev C a env h).bind fun y h => (match y with
    | .str s => okB (decide (K0.s s ∈ (C.dct g).1)) h
    | _ => .bad) := (rfl)
@[simp] theorem ev_idxG (a : E) (g : Nat) : ev C (.idxG g a) env h = (ev C a env h).bind fun y h => (match y with
    | .str s => (match dget (C.dct g).1 (C.dct g).2 (K0.s s) with
      | some v => .ok v h
      | none => .bad)
    | _ => .bad) := (rfl)
@[simp] theorem evb_no : evb C .no env h = .ok none h := (rfl)
@[simp] theorem evb_so (e : E) : evb C (.so e) env h = (ev C e env h).bind fun x h => (match x with
    | .int i => .ok (some i) h
    | _ => .bad) := (rfl)
@[simp] theorem evs_nil : evs C .nil env h = .ok [] h := (rfl)
@[simp] theorem evs_cons (e : E) (es : Es) : evs C (.cons e es) env h = (ev C e env h).bind fun x h => (evs C es env h).bind fun xs h => .ok (x :: xs) h := (rfl)
@[simp] theorem src_of (e : E) : src C (.of e) env h = (ev C e env h).bind fun x h => (match seqOf x with
    | some xs => .ok xs h
    | none => .bad) := (rfl)
@[simp] theorem src_range1 (e : E) : src C (.range1 e) env h = (ev C e env h).bind fun x h => (match x with
    | .int j => if small62 j then .ok (rangeF 0 j.toNat) h else .bad
    | _ => .bad) := (rfl)
@[simp] theorem src_enum (e : E) : src C (.enum e) env h = (ev C e env h).bind fun x h => (match x with
    | .lst xs => .ok (enumF 0 xs) h
    | _ => .bad) := (rfl)
@[simp] theorem src_enumT (e : E) : src C (.enumT e) env h = (ev C e env h).bind fun x h => (match x with
    | .tup xs => .ok (enumF 0 xs) h
    | _ => .bad) := (rfl)
@[simp] theorem src_zip (a b : E) : src C (.zip a b) env h = (ev C a env h).bind fun x h => (ev C b env h).bind fun y h => (match x, y with
    | .lst xs, .lst ys => .ok (pair2 xs ys) h
    | _, _ => .bad) := (rfl)
@[simp] theorem src_keys (i : Nat) : src C (.keys i) env h = (match valAt env i with
    | some v => keysOf v h
    | none => .bad) := by
  show (match valAt env i with
    | some (.dct ks _) => Res.ok (ks.map kEV) h
    | _ => .bad) = _
  cases valAt env i with
  | none => rfl
  | some v => cases v <;> rfl
@[simp] theorem src_keysO (i : Nat) : src C (.keysO i) env h = (match env[i]? with
    | some (some (.oD ks _)) => .ok (ks.map kEV) h
    | _ => .bad) := (rfl)
@[simp] theorem ex_asg (t : T) (e : E) : exS C (.asg t e) env h = (ev C e env h).s fun v h => (match t.put v env with
    | some env1 => .nx env1 h
    | none => .bad) := (rfl)
@[simp] theorem ex_own (i : Nat) (e : E) : exS C (.own i e) env h = (ev C e env h).s fun v h => (match ownR true v with
    | some w => .nx (env.set i (some w)) h
    | none => .bad) := (rfl)
@[simp] theorem ex_par2 (i j : Nat) (o1 o2 : Bool) (a b : E) : exS C (.par2 i j o1 o2 a b) env h = (ev C a env h).s fun x h => (match ownR o1 x with
    | some w1 => (ev C b env h).s fun y h => (match ownR o2 y with
      | some w2 => .nx ((env.set i (some w1)).set j (some w2)) h
      | none => .bad)
    | none => .bad) := (rfl)
@[simp] theorem ex_setR (o k v : E) : exS C (.setR o k v) env h = (ev C v env h).s fun v h => (ev C o env h).s fun o h => (ev C k env h).s fun k h => (match setAt o k v h with
    | some h1 => .nx env h1
    | none => .bad) := (rfl)
@[simp] theorem ex_setO (i : Nat) (k v : E) : exS C (.setO i k v) env h = (ev C v env h).s fun v h => (match env[i]? with
    | some (some (.oD ks vs)) => (ev C k env h).s fun k h => (match keyOf k with
      | some q => if ks.length < L then .nx (env.set i (some (.oD (dputK ks q) (dputV ks vs q v)))) h else .bad
      | none => .bad)
    | _ => .bad) := (rfl)
@[simp] theorem ex_app (i : Nat) (e : E) : exS C (.app i e) env h = (match env[i]? with
    | some (some (.oL xs)) => (ev C e env h).s fun v h => if xs.length < L then .nx (env.set i (some (.oL (xs ++ [v])))) h else .bad
    | _ => .bad) := (rfl)
@[simp] theorem ex_upd (i : Nat) (e : E) : exS C (.upd i e) env h = (match env[i]? with
    | some (some (.oD ks vs)) => (ev C e env h).s fun v h => (match v with
      | .dct ks' vs' => if ks.length + ks'.length ≤ L then .nx (env.set i (some (.oD (dmerge ks' vs' ks vs).1 (dmerge ks' vs' ks vs).2))) h else .bad
      | _ => .bad)
    | _ => .bad) := (rfl)
@[simp] theorem ex_ex (e : E) : exS C (.ex e) env h = (ev C e env h).s fun _ h => .nx env h := (rfl)
@[simp] theorem ex_ret (e : E) : exS C (.ret e) env h = (ev C e env h).s fun v h => .rt v h := (rfl)
@[simp] theorem ex_retOwn (i : Nat) : exS C (.retOwn i) env h = (match env[i]? with
    | some (some (.oL xs)) => .rt (.lst xs) h
    | some (some (.oD ks vs)) => .rt (.dct ks vs) h
    | _ => .bad) := (rfl)
@[simp] theorem ex_ite (t : E) (a b : Sts) : exS C (.ite t a b) env h = (ev C t env h).s fun v h => (match v with
    | .bl true => exSs C a env h
    | .bl false => exSs C b env h
    | _ => .bad) := (rfl)
theorem ex_for (t : T) (s : Sr) (b : Sts) : exS C (.for_ t s b) env h = (match src C s env h with
    | .ok xs h => turns t (exSs C b) xs env h
    | .exc x h => .exc x h
    | .bad => .bad) := (rfl)
@[simp] theorem ex_raise (c : Nat) : exS C (.raise_ c) env h = .exc c h := (rfl)
@[simp] theorem ex_pass : exS C .pass_ env h = .nx env h := (rfl)
@[simp] theorem ex_freeze (i : Nat) : exS C (.freeze i) env h = (match env[i]? with
    | some (some (.oL xs)) => .nx (env.set i (some (.val (.lst xs)))) h
    | some (some (.oD ks vs)) => .nx (env.set i (some (.val (.dct ks vs)))) h
    | _ => .bad) := (rfl)
@[simp] theorem ex_share (i : Nat) : exS C (.share i) env h = (match env[i]? with
    | some (some (.oL xs)) => .nx (env.set i (some (.val (.ref h.length)))) (h ++ [xs])
    | _ => .bad) := (rfl)
@[simp] theorem ex_spec (n : Nat) : exS C (.spec n) env h = C.spec n env h := (rfl)
@[simp] theorem exs_nil : exSs C .nil env h = .nx env h := (rfl)
@[simp] theorem exs_cons (s : St) (r : Sts) : exSs C (.cons s r) env h = (exS C s env h).thn (exSs C r) := (rfl)
end
section
variable {α β γ : Type}
@[simp] theorem bind_s (r : Res EV) (f : EV → Hh → Res EV) (g : EV → Hh → SRes) : (r.bind f).s g = r.s fun a h => (f a h).s g := by cases r <;> rfl
@[simp] theorem bind_bind (r : Res α) (f : α → Hh → Res β) (g : β → Hh → Res γ) : (r.bind f).bind g = r.bind fun a h => (f a h).bind g := by cases r <;> rfl
@[simp] theorem s_thn (r : Res EV) (f : EV → Hh → SRes) (g : MS) : (r.s f).thn g = r.s fun a h => (f a h).thn g := by cases r <;> rfl
@[simp] theorem thn_thn (r : SRes) (f g : MS) : (r.thn f).thn g = r.thn fun a h => (f a h).thn g := by cases r <;> rfl
theorem okB_s (b : Bool) (h : Hh) (f : EV → Hh → SRes) : (okB b h).s f = f (.bl b) h := (rfl)
@[simp] theorem okB_eq (b : Bool) (h : Hh) : okB b h = .ok (.bl b) h := (rfl)
@[simp] theorem put_nm (i : Nat) (v : EV) (env : Env) : T.put (.nm i) v env = some (env.set i (some (.val v))) := (rfl)
end
/-! ### rules by the form of the values -/
section
variable (h : Hh) (a b : S) (i j : Int) (p q : Bool) (x y z w : EV) (xs ys : List EV)
theorem strLt1 (a b : Nat) : strLt [a] [b] = decide (a < b) := by
  unfold strLt
  rw [decide_eq_decide]
  constructor
  · intro h
    cases h with
    | rel h => exact h
    | cons h => cases h
  · intro h; exact List.Lex.rel h
@[simp] theorem eqv_non : eqv .non .non = true := (rfl)
@[simp] theorem eqv_str : eqv (.str a) (.str b) = (a == b) := (rfl)
@[simp] theorem eqv_int : eqv (.int i) (.int j) = (i == j) := (rfl)
@[simp] theorem eqv_bl : eqv (.bl p) (.bl q) = (p == q) := (rfl)
@[simp] theorem eqv_tup : eqv (.tup xs) (.tup ys) = eqvs xs ys := (rfl)
@[simp] theorem eqv_lst : eqv (.lst xs) (.lst ys) = eqvs xs ys := (rfl)
@[simp] theorem eqv_str_non : eqv (.str a) .non = false := (rfl)
@[simp] theorem eqv_int_non : eqv (.int i) .non = false := (rfl)
@[simp] theorem eqv_tup_non : eqv (.tup xs) .non = false := (rfl)
@[simp] theorem eqv_non_str : eqv .non (.str a) = false := (rfl)
@[simp] theorem eqv_non_int : eqv .non (.int i) = false := (rfl)
@[simp] theorem eqv_non_tup : eqv .non (.tup xs) = false := (rfl)
@[simp] theorem eqv_str_int : eqv (.str a) (.int i) = false := (rfl)
@[simp] theorem eqv_int_str : eqv (.int i) (.str a) = false := (rfl)
@[simp] theorem eqv_str_tup : eqv (.str a) (.tup xs) = false := (rfl)
@[simp] theorem eqv_tup_str : eqv (.tup xs) (.str a) = false := (rfl)
@[simp] theorem eqv_lst_tup : eqv (.lst xs) (.tup ys) = false := (rfl)
@[simp] theorem eqv_int_tup : eqv (.int i) (.tup ys) = false := (rfl)
@[simp] theorem eqvs_nil : eqvs [] [] = true := (rfl)
@[simp] theorem eqvs_nc : eqvs [] (x :: xs) = false := (rfl)
@[simp] theorem eqvs_cn : eqvs (x :: xs) [] = false := (rfl)
@[simp] theorem eqvs_cc : eqvs (x :: xs) (y :: ys) = (eqv x y && eqvs xs ys) := (rfl)
@[simp] theorem shp_non (n : Nat) : shp n .non = true := by cases n <;> rfl
@[simp] theorem shp_str (n : Nat) : shp n (.str a) = true := by cases n <;> rfl
@[simp] theorem shp_int (n : Nat) : shp n (.int i) = true := by cases n <;> rfl
@[simp] theorem shp_bl (n : Nat) : shp n (.bl p) = true := by cases n <;> rfl
theorem shp_tupS (n : Nat) : shp (n + 1) (.tup xs) = shps n xs := (rfl)
theorem shp_lstS (n : Nat) : shp (n + 1) (.lst xs) = shps n xs := rfl
@[simp] theorem shp60_tup : shp 60 (.tup xs) = shps 59 xs := (rfl)
@[simp] theorem shp60_lst : shp 60 (.lst xs) = shps 59 xs := (rfl)
@[simp] theorem shp59_tup : shp 59 (.tup xs) = shps 58 xs := (rfl)
@[simp] theorem shp59_lst : shp 59 (.lst xs) = shps 58 xs := (rfl)
@[simp] theorem shp58_tup : shp 58 (.tup xs) = shps 57 xs := (rfl)
@[simp] theorem shps_nil (n : Nat) : shps n [] = true := by cases n <;> rfl
@[simp] theorem shps_cons (n : Nat) : shps n (x :: xs) = (shp n x && shps n xs) := by cases n <;> rfl
@[simp] theorem flat_non : flat .non = true := (rfl)
@[simp] theorem flat_str : flat (.str a) = true := (rfl)
@[simp] theorem flat_int : flat (.int i) = true := (rfl)
@[simp] theorem flat_bl : flat (.bl p) = true := (rfl)
@[simp] theorem ltL0 : 0 < L := by decide
@[simp] theorem ltL1 : 1 < L := by decide
@[simp] theorem ltL2 : 2 < L := by decide
@[simp] theorem ltL3 : 3 < L := by decide
@[simp] theorem ltL4 : 4 < L := by decide
@[simp] theorem ltL5 : 5 < L := by decide
@[simp] theorem ltL6 : 6 < L := by decide
@[simp] theorem ltL7 : 7 < L := by decide
@[simp] theorem ltL8 : 8 < L := by decide
@[simp] theorem ltL9 : 9 < L := by decide
@[simp] theorem ltL10 : 10 < L := by decide
@[simp] theorem ltL11 : 11 < L := by decide
@[simp] theorem ltL12 : 12 < L := by decide
@[simp] theorem ltL13 : 13 < L := by decide
@[simp] theorem ltL14 : 14 < L := by decide
@[simp] theorem ltL15 : 15 < L := by decide
@[simp] theorem ltL16 : 16 < L := by decide
@[simp] theorem ltL17 : 17 < L := by decide
@[simp] theorem ltL18 : 18 < L := by decide
@[simp] theorem ltL19 : 19 < L := by decide
@[simp] theorem ltL20 : 20 < L := by decide
@[simp] theorem leL0 : 0 ≤ L := by decide
@[simp] theorem leL1 : 1 ≤ L := by decide
@[simp] theorem leL2 : 2 ≤ L := by decide
@[simp] theorem leL3 : 3 ≤ L := by decide
@[simp] theorem leL4 : 4 ≤ L := by decide
@[simp] theorem leL5 : 5 ≤ L := by decide
@[simp] theorem leL6 : 6 ≤ L := by decide
@[simp] theorem leL7 : 7 ≤ L := by decide
@[simp] theorem leL8 : 8 ≤ L := by decide
@[simp] theorem leL9 : 9 ≤ L := by decide
@[simp] theorem leL10 : 10 ≤ L := by decide
@[simp] theorem leL11 : 11 ≤ L := by decide
@[simp] theorem leL12 : 12 ≤ L := by decide
@[simp] theorem leL13 : 13 ≤ L := by decide
@[simp] theorem leL14 : 14 ≤ L := by decide
@[simp] theorem leL15 : 15 ≤ L := by decide
@[simp] theorem leL16 : 16 ≤ L := by decide
@[simp] theorem leL17 : 17 ≤ L := by decide
@[simp] theorem leL18 : 18 ≤ L := by decide
@[simp] theorem leL19 : 19 ≤ L := by decide
@[simp] theorem leL20 : 20 ≤ L := by decide
@[simp] theorem run_eq : Cp.run .eq = opEq := (rfl)
@[simp] theorem run_ne : Cp.run .ne = opNe := (rfl)
@[simp] theorem run_lt : Cp.run .lt = opLt := (rfl)
@[simp] theorem run_le : Cp.run .le = opLe := (rfl)
@[simp] theorem run_gt : Cp.run .gt = opGt := (rfl)
@[simp] theorem run_ge : Cp.run .ge = opGe := (rfl)
@[simp] theorem run_is : Cp.run .is_ = opIs := (rfl)
@[simp] theorem run_isnot : Cp.run .isnot = opIsNot := (rfl)
@[simp] theorem run_in : Cp.run .in_ = opIn := (rfl)
@[simp] theorem run_notin : Cp.run .notin = opNotIn := (rfl)
@[simp] theorem orun_add : Op.run .add = opAdd := (rfl)
@[simp] theorem orun_sub : Op.run .sub = opSub := (rfl)
@[simp] theorem orun_mul : Op.run .mul = opMul := (rfl)
@[simp] theorem orun_fdiv : Op.run .fdiv = opFdiv := (rfl)
@[simp] theorem orun_mod : Op.run .mod = opMod := (rfl)
@[simp] theorem orun_pow : Op.run .pow = opPow := (rfl)
@[simp] theorem add_int : opAdd (.int i) (.int j) h = .ok (.int (i + j)) h := (rfl)
@[simp] theorem sub_int : opSub (.int i) (.int j) h = .ok (.int (i - j)) h := (rfl)
@[simp] theorem neg_int : opNeg (.int i) h = .ok (.int (-i)) h := (rfl)
@[simp] theorem add_lst : opAdd (.lst xs) (.lst ys) h = if xs.length + ys.length ≤ L then .ok (.lst (xs ++ ys)) h else .bad := (rfl)
@[simp] theorem add_tup : opAdd (.tup xs) (.tup ys) h = if xs.length + ys.length ≤ L then .ok (.tup (xs ++ ys)) h else .bad := (rfl)
@[simp] theorem add_str : opAdd (.str a) (.str b) h = if a.length + b.length ≤ L then .ok (.str (a ++ b)) h else .bad := (rfl)
theorem eqR_of (hx : shp 60 x = true) (hy : shp 60 y = true) : eqR x y = some (eqv x y) := by unfold eqR; rw [hx, hy]; rfl
theorem eqQ_of (hx : shp 60 x = true) (hy : shp 60 y = true) : eqQ x y = some (eqv x y) := by
  unfold eqQ
  split
  · cases hx
  · exact eqR_of _ _ hx hy
@[simp] theorem eqQ_str : eqQ (.str a) (.str b) = some (a == b) := (rfl)
@[simp] theorem eqQ_int : eqQ (.int i) (.int j) = some (i == j) := (rfl)
@[simp] theorem eqQ_rep : eqQ (.rep x) (.rep y) = repEq x y := (rfl)
@[simp] theorem eqQ_tup : eqQ (.tup xs) y = eqR (.tup xs) y := (rfl)
@[simp] theorem eqQ_lst : eqQ (.lst xs) y = eqR (.lst xs) y := (rfl)
@[simp] theorem eqR_val : eqR x y = if shp 60 x && shp 60 y then some (eqv x y) else none := (rfl)
@[simp] theorem opEq_val : opEq x y h = match eqQ x y with
  | some b => .ok (.bl b) h
  | none => .bad := (rfl)
@[simp] theorem opNe_val : opNe x y h = match eqQ x y with
  | some b => .ok (.bl (!b)) h
  | none => .bad := (rfl)
@[simp] theorem lt_int : opLt (.int i) (.int j) h = .ok (.bl (decide (i < j))) h := (rfl)
@[simp] theorem le_int : opLe (.int i) (.int j) h = .ok (.bl (decide (i ≤ j))) h := (rfl)
@[simp] theorem gt_int : opGt (.int i) (.int j) h = .ok (.bl (decide (j < i))) h := (rfl)
@[simp] theorem ge_int : opGe (.int i) (.int j) h = .ok (.bl (decide (j ≤ i))) h := (rfl)
@[simp] theorem le_str : opLe (.str a) (.str b) h = .ok (.bl (!strLt b a)) h := (rfl)
@[simp] theorem is_nn : opIs .non .non h = .ok (.bl true) h := (rfl)
@[simp] theorem is_tn : opIs (.tup xs) .non h = .ok (.bl false) h := (rfl)
@[simp] theorem is_sn : opIs (.str a) .non h = .ok (.bl false) h := (rfl)
@[simp] theorem is_in : opIs (.int i) .non h = .ok (.bl false) h := (rfl)
@[simp] theorem is_bb : opIs (.bl p) (.bl q) h = .ok (.bl (p == q)) h := (rfl)
@[simp] theorem isnot_nn : opIsNot .non .non h = .ok (.bl false) h := (rfl)
@[simp] theorem isnot_tn : opIsNot (.tup xs) .non h = .ok (.bl true) h := (rfl)
@[simp] theorem isnot_sn : opIsNot (.str a) .non h = .ok (.bl true) h := (rfl)
@[simp] theorem isnot_in : opIsNot (.int i) .non h = .ok (.bl true) h := (rfl)
@[simp] theorem isnot_bb : opIsNot (.bl p) (.bl q) h = .ok (.bl (!(p == q))) h := (rfl)
@[simp] theorem opIn_val : opIn x y h = match inR x y with
  | some b => .ok (.bl b) h
  | none => .bad := (rfl)
@[simp] theorem opNotIn_val : opNotIn x y h = match inR x y with
  | some b => .ok (.bl (!b)) h
  | none => .bad := (rfl)
@[simp] theorem in_tup : inR x (.tup ys) = if flat x && ys.all flat then some (ys.any fun z => eqv z x) else none := (rfl)
@[simp] theorem in_lst : inR x (.lst ys) = if shp 60 x && shps 60 ys then some (ys.any fun z => eqv z x) else none := (rfl)
@[simp] theorem in_dct_s (ks : List K0) (vs : List EV) : inR (.str a) (.dct ks vs) = some (decide (K0.s a ∈ ks)) := (rfl)
@[simp] theorem ix_t0 : opIdx (.tup (x :: xs)) (.int 0) h = .ok x h := by
  unfold opIdx atX ixAt
  simp only [List.length_cons]
  rw [if_pos (by decide), if_pos (by omega)]
  rfl
@[simp] theorem ix_t1 : opIdx (.tup (x :: y :: xs)) (.int 1) h = .ok y h := by
  unfold opIdx atX ixAt
  simp only [List.length_cons]
  rw [if_pos (by decide), if_pos (by omega)]
  rfl
@[simp] theorem ix_t2 : opIdx (.tup (x :: y :: z :: xs)) (.int 2) h = .ok z h := by
  unfold opIdx atX ixAt
  simp only [List.length_cons]
  rw [if_pos (by decide), if_pos (by omega)]
  rfl
@[simp] theorem ix_t3 : opIdx (.tup (x :: y :: z :: w :: xs)) (.int 3) h = .ok w h := by
  unfold opIdx atX ixAt
  simp only [List.length_cons]
  rw [if_pos (by decide), if_pos (by omega)]
  rfl
@[simp] theorem ix_l0 : opIdx (.lst (x :: xs)) (.int 0) h = .ok x h := by
  unfold opIdx atX ixAt
  simp only [List.length_cons]
  rw [if_pos (by decide), if_pos (by omega)]
  rfl
@[simp] theorem ix_l1 : opIdx (.lst (x :: y :: xs)) (.int 1) h = .ok y h := by
  unfold opIdx atX ixAt
  simp only [List.length_cons]
  rw [if_pos (by decide), if_pos (by omega)]
  rfl
@[simp] theorem ix_ds (ks : List K0) (vs : List EV) : opIdx (.dct ks vs) (.str a) h = (match dget ks vs (.s a) with
      | some v => .ok v h
      | none => .bad) := (rfl)
@[simp] theorem len_str : runBi .len [.str a] h = .ok (.int a.length) h := (rfl)
@[simp] theorem len_tup : runBi .len [.tup xs] h = .ok (.int xs.length) h := (rfl)
@[simp] theorem len_lst : runBi .len [.lst xs] h = .ok (.int xs.length) h := (rfl)
@[simp] theorem len_dct (ks : List K0) (vs : List EV) : runBi .len [.dct ks vs] h = .ok (.int ks.length) h := (rfl)
theorem all_lst : runBi .all [.lst xs] h = if xs.all isBl then .ok (.bl (xs.all trueBl)) h else .bad := rfl
@[simp high] theorem all_bl {α : Type} (l : List α) (p : α → Bool) : runBi .all [.lst (l.map fun a => .bl (p a))] h = .ok (.bl (l.all p)) h := by
  have e1 : (l.map fun a => EV.bl (p a)).all isBl = true := by simp [isBl]
  have e2 : (l.map fun a => EV.bl (p a)).all trueBl = l.all p := by simp [List.all_map, Function.comp_def, trueBl]
  rw [all_lst, e1, e2]; rfl
@[simp] theorem isin_str (t : Ty) : runBi (.isinst t) [.str a] h = .ok (.bl (t == .str)) h := (rfl)
@[simp] theorem isin_tup (t : Ty) : runBi (.isinst t) [.tup xs] h = .ok (.bl (t == .tuple)) h := (rfl)
@[simp] theorem isin_lst (t : Ty) : runBi (.isinst t) [.lst xs] h = .ok (.bl false) h := (rfl)
@[simp] theorem isin_int (t : Ty) : runBi (.isinst t) [.int i] h = .ok (.bl (t == .int)) h := (rfl)
@[simp] theorem isin_bl (t : Ty) : runBi (.isinst t) [.bl p] h = .ok (.bl (t == .bool || t == .int)) h := (rfl)
@[simp] theorem isin_non (t : Ty) : runBi (.isinst t) [.non] h = .ok (.bl false) h := (rfl)
@[simp] theorem tuple_lst : runBi .tuple [.lst xs] h = .ok (.tup xs) h := (rfl)
@[simp] theorem tuple_tup : runBi .tuple [.tup xs] h = .ok (.tup xs) h := (rfl)
@[simp] theorem list_lst : runBi .list [.lst xs] h = .ok (.lst xs) h := (rfl)
@[simp] theorem list_tup : runBi .list [.tup xs] h = .ok (.lst xs) h := (rfl)
@[simp] theorem bint_int : runBi .int_ [.int i] h = .ok (.int i) h := (rfl)
@[simp] theorem bint_bl : runBi .int_ [.bl p] h = .ok (.int (if p then 1 else 0)) h := (rfl)
@[simp] theorem abs_int : runBi .abs [.int i] h = .ok (.int (if i < 0 then -i else i)) h := (rfl)
@[simp] theorem dict_dct (ks : List K0) (vs : List EV) : runBi .dict [.dct ks vs] h = .ok (.dct ks vs) h := (rfl)
theorem dict_lst : runBi .dict [.lst xs] h = (match dictOf xs [] [] with
      | some (ks, vs) => .ok (.dct ks vs) h
      | none => .bad) := (rfl)
@[simp] theorem sorted_lst : runBi .sorted [.lst xs] h = (match sortV xs with
      | some ys => .ok (.lst ys) h
      | none => .bad) := (rfl)
@[simp] theorem items_dct (ks : List K0) (vs : List EV) : runBi .items [.dct ks vs] h = .ok (.lst (Ev.items ks vs)) h := (rfl)
@[simp] theorem repr_bl (p : Bool) : runBi .repr [.bl p] h = .ok (.rep (.bl p)) h := (rfl)
theorem repr_val : runBi .repr [x] h = if rok x && shp 40 x && decide (rsz x ≤ 1000000) then .ok (.rep x) h else .bad := (rfl)
@[simp] theorem seq_tup : seqOf (.tup xs) = some xs := (rfl)
@[simp] theorem seq_lst : seqOf (.lst xs) = some xs := (rfl)
@[simp] theorem seq_str : seqOf (.str a) = some (a.map fun c => .str [c]) := (rfl)
@[simp] theorem key_str : keyOf (.str a) = some (.s a) := (rfl)
@[simp] theorem valAt_val (env : Env) (i : Nat) : valAt env i = match env[i]? with
  | some (some (.val v)) => some v
  | _ => none := (rfl)
@[simp] theorem cut_tup (lo hi : Option Int) : opCut (.tup xs) lo hi h = .ok (.tup (cut xs lo hi)) h := (rfl)
@[simp] theorem cut_lst (lo hi : Option Int) : opCut (.lst xs) lo hi h = .ok (.lst (cut xs lo hi)) h := (rfl)
@[simp] theorem own_lst : ownR true (.lst xs) = some (.oL xs) := (rfl)
@[simp] theorem own_dct (ks : List K0) (vs : List EV) : ownR true (.dct ks vs) = some (.oD ks vs) := (rfl)
@[simp] theorem own_val : ownR false x = some (.val x) := (rfl)
@[simp] theorem put_tup (ts : List T) (env : Env) : T.put (.tup ts) (.tup xs) env = puts ts xs env := (rfl)
@[simp] theorem puts_nil (env : Env) : puts [] [] env = some env := (rfl)
@[simp] theorem puts_cons (t : T) (ts : List T) (env : Env) : puts (t :: ts) (x :: xs) env = (match t.put x env with
    | some e => puts ts xs e
    | none => none) := (rfl)
@[simp] theorem isBl_bl : isBl (.bl p) = true := (rfl)
@[simp] theorem trueBl_bl : trueBl (.bl p) = p := (rfl)
@[simp] theorem wipe_nil (env : Env) : wipe env [] = env := (rfl)
@[simp] theorem wipe_cons (env : Env) (i : Nat) (r : List Nat) : wipe env (i :: r) = wipe (env.set i none) r := (rfl)
end
/-! ### what is wanted behind a result -/
section
variable {α β : Type}
def RW (r : Res α) (P : α → Hh → Prop) (X : Nat → Hh → Prop) : Prop := match r with
  | .ok a h => P a h
  | .exc c h => X c h
  | .bad => False
def SW (r : SRes) (N : Env → Hh → Prop) (R : EV → Hh → Prop) (X : Nat → Hh → Prop) : Prop := match r with
  | .nx env h => N env h
  | .rt v h => R v h
  | .exc c h => X c h
  | .bad => False
def NoX : Nat → Hh → Prop := fun _ _ => False
variable {P P' : α → Hh → Prop} {X X' : Nat → Hh → Prop} {N : Env → Hh → Prop} {R : EV → Hh → Prop} {h : Hh}
@[simp] theorem RW_ok (a : α) : RW (.ok a h) P X = P a h := (rfl)
@[simp] theorem RW_exc (c : Nat) : RW (.exc c h : Res α) P X = X c h := (rfl)
@[simp] theorem RW_bad : RW (.bad : Res α) P X = False := (rfl)
@[simp] theorem RW_bind (r : Res α) (f : α → Hh → Res β) (Q : β → Hh → Prop) : RW (r.bind f) Q X = RW r (fun a h => RW (f a h) Q X) X := by cases r <;> rfl
@[simp] theorem SW_nx (env : Env) : SW (.nx env h) N R X = N env h := (rfl)
@[simp] theorem SW_rt (v : EV) : SW (.rt v h) N R X = R v h := (rfl)
@[simp] theorem SW_exc (c : Nat) : SW (.exc c h) N R X = X c h := (rfl)
@[simp] theorem SW_bad : SW .bad N R X = False := (rfl)
@[simp] theorem SW_thn (r : SRes) (f : MS) : SW (r.thn f) N R X = SW r (fun env h => SW (f env h) N R X) R X := by cases r <;> rfl
@[simp] theorem SW_s (r : Res EV) (f : EV → Hh → SRes) : SW (r.s f) N R X = RW r (fun v h => SW (f v h) N R X) X := by cases r <;> rfl
@[simp] theorem SW_exfor (C : Cxt) (t : T) (s : Sr) (b : Sts) (env : Env) : SW (exS C (.for_ t s b) env h) N R X = RW (src C s env h) (fun xs h => SW (turns t (exSs C b) xs env h) N R X) X := by
  rw [ex_for]
  cases src C s env h <;> rfl
theorem RW_mono {r : Res α} (q : RW r P X) (i : ∀ a h, P a h → P' a h) (j : ∀ c h, X c h → X' c h) : RW r P' X' := by
  cases r with
  | ok a h => exact i a h q
  | exc c h => exact j c h q
  | bad => exact q
theorem RW_imp {r : Res α} (q : RW r P NoX) (i : ∀ a h, P a h → P' a h) : RW r P' X := RW_mono q i fun _ _ z => z.elim
theorem RW_eq {r : Res α} {v : α} (q : RW r (fun a h' => a = v ∧ h' = h) NoX) : r = .ok v h := by
  cases r with
  | ok a h => obtain ⟨rfl, rfl⟩ := q; rfl
  | exc c h => exact q.elim
  | bad => exact (show False from q).elim
theorem RW_is {r r0 : Res α} (q : RW r (fun a h' => r0 = .ok a h') (fun c h' => r0 = .exc c h')) : r = r0 := by
  cases r with
  | ok a h => exact Eq.symm q
  | exc c h => exact Eq.symm q
  | bad => exact (show False from q).elim
theorem RW_of {r : Res α} {v : α} (e : r = .ok v h) (q : P v h) : RW r P X := by rw [e]; exact q
/-- a def's run -/
theorem RW_run {C : Cxt} {d : Df} {xs : List EV} {P : EV → Hh → Prop} (hl : xs.length = d.np) (q : SW (exSs C d.body (startE d.ns xs) h) (fun _ h => d.fresh = false ∧ P .non h) P X) : RW (runDf C d xs h) P X := by
  unfold runDf
  rw [if_pos hl]
  cases e : exSs C d.body (startE d.ns xs) h with
  | nx env h1 =>
    rw [e] at q
    obtain ⟨q1, q2⟩ := q
    simp only [q1]
    exact q2
  | rt v h1 => rw [e] at q; exact q
  | exc c h1 => rw [e] at q; exact q
  | bad => rw [e] at q; exact q
/-- a for over encoded items; the invariant speaks of what is left -/
theorem SW_for {t : T} {body : MS} (e : α → EV) (I : List α → Env → Hh → Prop) : ∀ (l : List α) {env : Env} {h : Hh}, I l env h →
    (∀ a r env h, I (a :: r) env h → ∃ env1, t.put (e a) env = some env1 ∧ SW (body env1 h) (I r) R X) → (∀ env h, I [] env h → N env h) → SW (turns t body (l.map e) env h) N R X
  | [], env, h, i, _, hd => hd _ _ i
  | a :: l, env, h, i, hs, hd => by
    obtain ⟨env1, h1, h2⟩ := hs a l env h i
    simp only [List.map_cons, turns, h1, SW_thn]
    revert h2
    cases body env1 h with
    | nx env2 h2 => exact fun i2 => SW_for e I l i2 hs hd
    | rt v h2 => exact id
    | exc c h2 => exact id
    | bad => exact id
theorem RW_comps {t : T} {test elt : M} {env0 : Env} {P : List EV → Hh → Prop} (e : α → EV) (I : List α → List EV → Hh → Prop) : ∀ (l : List α) {acc : List EV} {h : Hh}, I l acc h →
    (∀ a r acc h, I (a :: r) acc h → acc.length < L ∧ ∃ env1, t.put (e a) env0 = some env1 ∧ RW (test env1 h) (fun v h1 => (v = .bl true ∧ RW (elt env1 h1) (fun x h2 => I r (acc ++ [x]) h2) NoX) ∨ (v = .bl false ∧ I r acc h1)) NoX) → (∀ acc h, I [] acc h → P acc h) →
    RW (comps t test elt env0 (l.map e) acc h) P X
  | [], acc, h, i, _, hd => hd _ _ i
  | a :: l, acc, h, i, hs, hd => by
    obtain ⟨hl, env1, h1, h2⟩ := hs a l acc h i
    simp only [List.map_cons, comps, h1]
    revert h2
    cases test env1 h with
    | ok v h2 =>
      intro q
      rcases q with ⟨rfl, q⟩ | ⟨rfl, q⟩
      · simp only []
        revert q
        cases elt env1 h2 with
        | ok x h3 =>
          intro q
          simp only [if_pos hl]
          exact RW_comps e I l q hs hd
        | exc c h3 => exact fun z => z.elim
        | bad => exact fun z => (show False from z).elim
      · exact RW_comps e I l q hs hd
    | exc c h3 => exact fun z => z.elim
    | bad => exact fun z => (show False from z).elim
/-- a comprehension whose parts write nothing -/
theorem comps_pure {t : T} {test elt : M} {env0 : Env} {e : α → EV} {p : α → Bool} {f : α → EV} (l : List α) (acc : List EV) (hl : acc.length + l.length ≤ L) (hp : ∀ a ∈ l, ∃ env1, t.put (e a) env0 = some env1 ∧ test env1 h = .ok (.bl (p a)) h ∧ (p a = true → elt env1 h = .ok (f a) h)) :
    comps t test elt env0 (l.map e) acc h = .ok (acc ++ (l.filter p).map f) h := by
  induction l generalizing acc with
  | nil => simp [comps]
  | cons a l ih =>
    obtain ⟨env1, h1, h2, h3⟩ := hp a (by simp)
    have ih := fun acc hl => ih acc hl fun b hb => hp b (by simp [hb])
    simp only [List.length_cons] at hl
    simp only [List.map_cons, comps, h1, h2]
    cases e : p a with
    | true =>
      simp only [h3 e]
      rw [if_pos (by omega), ih _ (by simp only [List.length_append, List.length_singleton]; omega)]
      simp [e]
    | false =>
      simp only []
      rw [ih _ (by omega)]
      simp [e]
theorem comps_map {t : T} {elt : M} {env0 : Env} {C : Cxt} {e : α → EV} {f : α → EV} (l : List α) (acc : List EV) (hl : acc.length + l.length ≤ L) (hp : ∀ a ∈ l, ∃ env1, t.put (e a) env0 = some env1 ∧ elt env1 h = .ok (f a) h) :
    comps t (ev C (.bl true)) elt env0 (l.map e) acc h = .ok (acc ++ l.map f) h := by
  have := comps_pure (test := ev C (.bl true)) (p := fun _ => true) (f := f) l acc hl fun a ha => let ⟨env1, q1, q2⟩ := hp a ha; ⟨env1, q1, rfl, fun _ => q2⟩
  rw [this, List.filter_eq_self.mpr (by simp)]
end
end Pl
end
section
set_option autoImplicit false
set_option linter.all false
set_option maxRecDepth 100000
/-! P1: sums, conditions, asks; what the small functions compute. -/
namespace Pl
open Ev K64
inductive Kd where
  | num | txt
  deriving DecidableEq, Inhabited
def Kd.s : Kd → S
  | .num => [110, 117, 109, 98, 101, 114]
  | .txt => [116, 101, 120, 116]
inductive Rc where
  | plus | minus | times
  deriving DecidableEq
def Rc.s : Rc → S
  | .plus => [112, 108, 117, 115]
  | .minus => [109, 105, 110, 117, 115]
  | .times => [116, 105, 109, 101, 115]
inductive Sm where
  | col (n : S) | num (i : Int) | txt (s : S) | non (k : Kd) | rek (r : Rc) (a b : Sm)
def sCol : S := [99, 111, 108, 117, 109, 110]
def sNon : S := [110, 111, 116, 104, 105, 110, 103]
def Sm.e : Sm → EV
  | .col n => .tup [.str [99, 111, 108, 117, 109, 110], .str n]
  | .num i => .tup [.str [110, 117, 109, 98, 101, 114], .int i]
  | .txt s => .tup [.str [116, 101, 120, 116], .str s]
  | .non k => .tup [.str [110, 111, 116, 104, 105, 110, 103], .str k.s]
  | .rek r a b => .tup [.str r.s, a.e, b.e]
abbrev Kds := List (S × Kd × Bool)
def eK (ks : Kds) : EV := .dct (ks.map fun p => K0.s p.1) (ks.map fun p => .tup [.str p.2.1.s, .bl p.2.2])
def eKo : Option (Kd × Bool) → EV
  | none => .non
  | some p => .tup [.str p.1.s, .bl p.2]
def isPr (c : Nat) : Bool := decide (32 ≤ c) && decide (c ≤ 126)
def isLet (c : Nat) : Bool := decide (97 ≤ c) && decide (c ≤ 122)
def isText (s : S) : Bool := s.all isPr
def isWord (s : S) : Bool := decide (1 ≤ s.length) && decide (s.length ≤ 8) && s.all isLet
def isName (s : S) : Bool := decide ((splitS 46 s).length < 3) && (splitS 46 s).all isWord
def kindIn (ks : Kds) : Sm → Option (Kd × Bool)
  | .col n => ks.lookup n
  | .num _ => some (.num, false)
  | .txt s => if isText s then some (.txt, false) else none
  | .non k => some (k, true)
  | .rek _ a b => match kindIn ks a, kindIn ks b with
    | some (.num, x), some (.num, y) => some (.num, x || y)
    | _, _ => none
theorem dget_eK (ks : Kds) (n : S) : dget (ks.map fun p => K0.s p.1) (ks.map fun p => EV.tup [.str p.2.1.s, .bl p.2.2]) (.s n) = (ks.lookup n).map fun p => EV.tup [.str p.1.s, .bl p.2] := by
  induction ks with
  | nil => rfl
  | cons p ks ih =>
    obtain ⟨m, q⟩ := p
    simp only [List.map_cons, dget, List.lookup_cons]
    by_cases e : m = n
    · subst e; simp
    · have : (n == m) = false := by simp [Ne.symm e]
      simp [e, this, ih]
def hS : Sm → Nat
  | .rek _ a b => 1 + max (hS a) (hS b)
  | _ => 1
theorem Kd.s_inj : ∀ (a b : Kd), (a.s == b.s) = (a == b) := by intro a b; cases a <;> cases b <;> rfl
section
variable {M : Mo} (H : Has M) {k : Nat} {h : Hh}
include H
theorem gl0 : ∀ k, (M.cx k).glob 0 = .str Kd.num.s := fun k => by rw [cx_gl, H.gl 0 (by decide)]; rfl
theorem gl1 : ∀ k, (M.cx k).glob 1 = .str Kd.txt.s := fun k => by rw [cx_gl, H.gl 1 (by decide)]; rfl
theorem gl2 : ∀ k, (M.cx k).glob 2 = .str [97, 98, 99, 100, 101, 102, 103, 104, 105, 106, 107, 108, 109, 110, 111, 112, 113, 114, 115, 116, 117, 118, 119, 120, 121, 122] := fun k => by rw [cx_gl, H.gl 2 (by decide)]; rfl
theorem gl3 : ∀ k, (M.cx k).glob 3 = .int 8 := fun k => by rw [cx_gl, H.gl 3 (by decide)]; rfl
theorem gl4 : ∀ k, (M.cx k).glob 4 = .tup [.str Rc.plus.s, .str Rc.minus.s, .str Rc.times.s] := fun k => by rw [cx_gl, H.gl 4 (by decide)]; rfl

theorem is_whole_ok {i : Int} (hk : 0 < k) : (M.cx k).callF 0 [.int i] h = .ok (.bl true) h := by
  rw [call_of (H.df 0 f_is_whole (by decide) (by decide) rfl) hk]; rfl
theorem is_text_ok {s : S} (hk : 0 < k) : (M.cx k).callF 1 [.str s] h = .ok (.bl (isText s)) h := by
  rw [call_of (H.df 1 f_is_text (by decide) (by decide) rfl) hk]
  refine RW_eq (RW_run rfl ?_)
  simp [f_is_text, startE]
  refine SW_for (fun c => EV.str [c]) (fun r env h' => ∃ a b, env = [a, b] ∧ h' = h ∧ isText s = r.all isPr) s ⟨_, _, rfl, rfl, rfl⟩ ?_ ?_
  · rintro c r env h' ⟨a, b, rfl, rfl, e⟩
    rw [List.all_cons] at e
    have e1 : decide (c < 32) = !decide (32 ≤ c) := by rw [← decide_not, decide_eq_decide]; omega
    have e2 : decide (126 < c) = !decide (c ≤ 126) := by rw [← decide_not, decide_eq_decide]; omega
    by_cases h1 : 32 ≤ c <;> by_cases h2 : c ≤ 126 <;> simp [isPr, h1, h2] at e <;> simp [strLt1, h1, h2, e1, e2, e]
  · rintro env h' ⟨a, b, rfl, rfl, e⟩
    simp [e]
theorem is_word_ok {s : S} (hk : 0 < k) : (M.cx k).callF 2 [.str s] h = .ok (.bl (isWord s)) h := by
  rw [call_of (H.df 2 f_is_word (by decide) (by decide) rfl) hk]
  refine RW_eq (RW_run rfl ?_)
  simp [f_is_word, startE, gl3 H, gl2 H]
  by_cases a1 : 1 ≤ s.length
  · by_cases a2 : s.length ≤ 8
    · have b1 : decide ((1 : Int) ≤ s.length) = true := by simp; omega
      have b2 : decide ((s.length : Int) ≤ 8) = true := by simp; omega
      simp [b1, b2]
      refine SW_for (fun c => EV.str [c]) (fun r env h' => ∃ a b, env = [a, b] ∧ h' = h ∧ isWord s = r.all isLet) s ⟨_, _, rfl, rfl, ?_⟩ ?_ ?_
      · unfold isWord; simp [a1, a2]
      · rintro c r env h' ⟨a, b, rfl, rfl, e⟩
        have key : inR (.str [c]) (.str [97, 98, 99, 100, 101, 102, 103, 104, 105, 106, 107, 108, 109, 110, 111, 112, 113, 114, 115, 116, 117, 118, 119, 120, 121, 122]) = some (isLet c) := by
          show some (decide (c ∈ List.range' 97 26)) = _
          rw [isLet, ← Bool.decide_and]
          congr 1
          rw [decide_eq_decide, List.mem_range'_1]
          omega
        rw [List.all_cons] at e
        simp [key, gl2 H]
        cases hc : isLet c with
        | true => simp [hc] at e; simp [e]
        | false => simp [hc] at e; simp [e]
      · rintro env h' ⟨a, b, rfl, rfl, e⟩
        simp [e]
    · have b1 : decide ((1 : Int) ≤ s.length) = true := by simp; omega
      have b2 : decide ((s.length : Int) ≤ 8) = false := by simp; omega
      simp [b1, b2, isWord, a2]
  · have b1 : decide ((1 : Int) ≤ s.length) = false := by simp; omega
    simp [b1, isWord, a1]
theorem is_name_ok {s : S} (hk : 1 < k) (hs : s.length + 2 ≤ L) (hp : (splitS 46 s).length ≤ L) : (M.cx k).callF 4 [.str s] h = .ok (.bl (isName s)) h := by
  rw [call_of (H.df 4 f_is_name (by decide) (by decide) rfl) (by omega)]
  refine RW_eq (RW_run rfl ?_)
  have b1 : decide (((splitS 46 s).length : Int) < 3) = decide ((splitS 46 s).length < 3) := by rw [decide_eq_decide]; omega
  simp [f_is_name, startE, hs, b1]
  cases hc : decide ((splitS 46 s).length < 3) with
  | false => simp [isName, hc]
  | true =>
    simp
    rw [comps_map (f := fun s => .bl (isWord s)) _ _ (by simpa using hp) (fun a ha => ⟨_, rfl, by simp [is_word_ok H (k := k - 1) (by omega)]⟩)]
    simp [isName, hc]
theorem plain_num {i : Int} (hk : 1 < k) : (M.cx k).callF 5 [.tup [.str [110, 117, 109, 98, 101, 114], .int i]] h = .ok (.tup [.str Kd.num.s, .bl false]) h := by
  rw [call_of (H.df 5 f_plain_kind (by decide) (by decide) rfl) (by omega)]
  refine RW_eq (RW_run rfl ?_)
  simp [f_plain_kind, startE, is_whole_ok H (k := k - 1) (by omega : 0 < k - 1), gl0 H]
theorem plain_txt {s : S} (hk : 1 < k) : (M.cx k).callF 5 [.tup [.str [116, 101, 120, 116], .str s]] h = .ok (eKo (if isText s then some (.txt, false) else none)) h := by
  rw [call_of (H.df 5 f_plain_kind (by decide) (by decide) rfl) (by omega)]
  refine RW_eq (RW_run rfl ?_)
  simp [f_plain_kind, startE, is_text_ok H (k := k - 1) (by omega : 0 < k - 1), gl1 H]
  cases isText s <;> simp [eKo, f_plain_kind]
theorem plain_non {k' : Kd} (hk : 1 < k) : (M.cx k).callF 5 [.tup [.str [110, 111, 116, 104, 105, 110, 103], .str k'.s]] h = .ok (.tup [.str k'.s, .bl true]) h := by
  rw [call_of (H.df 5 f_plain_kind (by decide) (by decide) rfl) (by omega)]
  refine RW_eq (RW_run rfl ?_)
  cases k' <;> simp [f_plain_kind, startE, gl0 H, gl1 H, Kd.s]
theorem kind_in_ok (ks : Kds) : ∀ (m : Sm) {k : Nat}, hS m + 2 ≤ k → (M.cx k).callF 6 [m.e, eK ks] h = .ok (eKo (kindIn ks m)) h
  | .col n, k, hk => by
    rw [call_of (H.df 6 f_kind_in (by decide) (by decide) rfl) (by omega)]
    refine RW_eq (RW_run rfl ?_)
    have e := dget_eK ks n
    simp [f_kind_in, startE, Sm.e, eK, e, kindIn]
    cases ks.lookup n <;> rfl
  | .num i, k, hk => by
    rw [call_of (H.df 6 f_kind_in (by decide) (by decide) rfl) (by omega)]
    refine RW_eq (RW_run rfl ?_)
    simp [f_kind_in, startE, Sm.e, eK, keyOf, dget_eK, kindIn, plain_num H (k := k - 1) (by simp [hS] at hk; omega), eKo]
  | .txt s, k, hk => by
    rw [call_of (H.df 6 f_kind_in (by decide) (by decide) rfl) (by omega)]
    refine RW_eq (RW_run rfl ?_)
    simp [f_kind_in, startE, Sm.e, eK, keyOf, dget_eK, kindIn, plain_txt H (k := k - 1) (by simp [hS] at hk; omega)]
  | .non k', k, hk => by
    rw [call_of (H.df 6 f_kind_in (by decide) (by decide) rfl) (by omega)]
    refine RW_eq (RW_run rfl ?_)
    simp [f_kind_in, startE, Sm.e, eK, keyOf, dget_eK, kindIn, plain_non H (k := k - 1) (by simp [hS] at hk; omega), eKo]
  | .rek r a b, k, hk => by
    rw [call_of (H.df 6 f_kind_in (by decide) (by decide) rfl) (by omega)]
    refine RW_eq (RW_run rfl ?_)
    simp only [hS] at hk
    have ha := kind_in_ok ks a (k := k - 1) (by omega)
    have hb := kind_in_ok ks b (k := k - 1) (by omega)
    cases r <;> simp [f_kind_in, startE, Sm.e, kindIn, ha, hb, gl4 H, gl0 H, Rc.s]
    all_goals
      rcases kindIn ks a with _ | ⟨ka, ma⟩
      · simp [eKo]
      · rcases kindIn ks b with _ | ⟨kb, mb⟩
        · simp [eKo]
        · cases ka <;> cases kb <;> cases ma <;> simp [eKo, Kd.s]
theorem need_t (hk : 0 < k) : (M.cx k).callF 7 [.bl true] h = .ok .non h := by
  rw [call_of (H.df 7 f_need (by decide) (by decide) rfl) hk]; rfl
theorem need_f (hk : 0 < k) : (M.cx k).callF 7 [.bl false] h = .exc 0 h := by
  rw [call_of (H.df 7 f_need (by decide) (by decide) rfl) hk]; rfl
end
end Pl
end
section
set_option autoImplicit false
set_option linter.all false
set_option maxRecDepth 100000
/-! P2: asks and conditions; frames; which columns they have. -/
namespace Pl
open Ev K64
inductive Jn where
  | join | left | half | lack
  deriving DecidableEq
def Jn.s : Jn → S
  | .join => [106, 111, 105, 110]
  | .left => [108, 101, 102, 116]
  | .half => [104, 97, 108, 102]
  | .lack => [108, 97, 99, 107]
mutual
inductive Ak where
  | table (n al : S) | pick (a : Ak) (c : Cd) | shw (a : Ak) (ps : List (S × Sm)) | both (w : Jn) (a b : Ak) (c : Cd) | once (a : Ak) | group (a : Ak) (ns : List S) | add (a b : Ak) | first (a : Ak) (i : Int)
inductive Cd where
  | yes | is (a b : Sm) | less (a b : Sm) | isn (a : Sm) | not (c : Cd) | both (c d : Cd) | eith (c d : Cd) | som (a : Ak) (c : Cd)
end
mutual
def Ak.e : Ak → EV
  | .table n al => .tup [.str [116, 97, 98, 108, 101], .str n, .str al]
  | .pick a c => .tup [.str [112, 105, 99, 107], a.e, c.e]
  | .shw a ps => .tup [.str [115, 104, 111, 119], a.e, .tup (ps.map fun p => .tup [.str p.1, p.2.e])]
  | .both w a b c => .tup [.str w.s, a.e, b.e, c.e]
  | .once a => .tup [.str [111, 110, 99, 101], a.e]
  | .group a ns => .tup [.str [103, 114, 111, 117, 112], a.e, .tup (ns.map .str), .tup []]
  | .add a b => .tup [.str [97, 100, 100], a.e, b.e]
  | .first a i => .tup [.str [102, 105, 114, 115, 116], a.e, .tup [], .int i]
def Cd.e : Cd → EV
  | .yes => .tup [.str [121, 101, 115]]
  | .is a b => .tup [.str [105, 115], a.e, b.e]
  | .less a b => .tup [.str [108, 101, 115, 115], a.e, b.e]
  | .isn a => .tup [.str [105, 115, 110, 111, 116, 104, 105, 110, 103], a.e]
  | .not c => .tup [.str [110, 111, 116], c.e]
  | .both c d => .tup [.str [98, 111, 116, 104], c.e, d.e]
  | .eith c d => .tup [.str [101, 105, 116, 104, 101, 114], c.e, d.e]
  | .som a c => .tup [.str [115, 111, 109, 101], a.e, c.e]
end
abbrev Col := S × Kd × Bool
abbrev Cols := List Col
def eCol (c : Col) : EV := .tup [.str c.1, .str c.2.1.s, .bl c.2.2]
def eCs (cs : Cols) : EV := .lst (cs.map eCol)
def leC (a b : Col) : Bool := leV (eCol a) (eCol b)
def srt (cs : Cols) : Cols := cs.mergeSort leC
structure Tb where
  name : S
  fields : Cols
  keys : List (List S)
def Tb.e (t : Tb) : EV := .tup [.str t.name, .tup (t.fields.map eCol), .tup (t.keys.map fun k => .tup (k.map .str))]
structure Fr where
  tabs : List Tb
  pts : EV
def Fr.e (F : Fr) : EV := .tup [.tup (F.tabs.map Tb.e), F.pts]
structure TbOk (t : Tb) : Prop where
  name : isWord t.name = true
  words : ∀ c ∈ t.fields, isWord c.1 = true
  nd : (t.fields.map (·.1)).Nodup
  few : t.fields.length ≤ 16
structure FrOk (F : Fr) : Prop where
  tb : ∀ t ∈ F.tabs, TbOk t
/-! depths, sizes -/
def hPs : List (S × Sm) → Nat
  | [] => 0
  | p :: r => max (hS p.2) (hPs r)
mutual
def hA : Ak → Nat
  | .table _ _ => 1
  | .pick a c => 1 + max (hA a) (hC c)
  | .shw a ps => 1 + max (hA a) (2 + hPs ps)
  | .both _ a b c => 1 + max (max (hA a) (hA b)) (hC c)
  | .once a => 1 + hA a
  | .group a _ => 1 + hA a
  | .add a b => 1 + max (hA a) (hA b)
  | .first a _ => 1 + hA a
def hC : Cd → Nat
  | .yes => 1
  | .is a b => 1 + max (hS a) (hS b)
  | .less a b => 1 + max (hS a) (hS b)
  | .isn a => 1 + hS a
  | .not c => 1 + hC c
  | .both c d => 1 + max (hC c) (hC d)
  | .eith c d => 1 + max (hC c) (hC d)
  | .som a c => 1 + max (hA a) (hC c)
end
def zPs : List (S × Sm) → Nat
  | [] => 0
  | p :: r => p.1.length + 3 + zPs r
mutual
def zA : Ak → Nat
  | .table _ _ => 16
  | .pick a c => zA a + zC c
  | .shw a ps => zA a + zPs ps
  | .both _ a b c => zA a + zA b + zC c
  | .once a => zA a
  | .group a ns => zA a + ns.length
  | .add a b => zA a + zA b
  | .first a _ => zA a
def zC : Cd → Nat
  | .not c => zC c
  | .both c d => zC c + zC d
  | .eith c d => zC c + zC d
  | .som a c => zA a + zC c
  | _ => 0
end
/-! ### columns -/
def nodupK (cs : Cols) : Bool := decide ((cs.map (·.1)).Nodup)
/-- the kinds of what is shown -/
def shownCs (ks : Kds) : List (S × Sm) → Option Cols
  | [] => some []
  | p :: r => if isName p.1 then (match kindIn ks p.2 with
    | some q => (match shownCs ks r with
      | some cs => some ((p.1, q) :: cs)
      | none => none)
    | none => none) else none
def groupCs (ks : Kds) : List S → Option Cols
  | [] => some []
  | n :: r => (match ks.lookup n with
    | some q => (match groupCs ks r with
      | some cs => some ((n, q) :: cs)
      | none => none)
    | none => none)
def addCs : Cols → Cols → Cols
  | a :: r, b :: s => (a.1, a.2.1, a.2.2 || b.2.2) :: addCs r s
  | _, _ => []
def guardO {α : Type} (b : Bool) (x : α) : Option α := if b then some x else none
mutual
/-- columns as they come, ahead of the sorting -/
def rawA (F : Fr) : Ak → Option Cols
  | .table n al => (F.tabs.find? fun t => t.name == n).bind fun t => guardO (isWord al) (t.fields.map fun c => (al ++ [46] ++ c.1, c.2))
  | .pick a c => ((rawA F a).map srt).bind fun cs => guardO (okC F c cs) cs
  | .shw a ps => ((rawA F a).map srt).bind fun cs => if ps.isEmpty then none else (shownCs cs ps).bind fun ds => guardO (nodupK ds) ds
  | .both w a b c => ((rawA F a).map srt).bind fun x => ((rawA F b).map srt).bind fun y => guardO (nodupK (x ++ y) && okC F c (x ++ y)) (match w with
    | .half | .lack => x
    | .left => x ++ y.map fun c => (c.1, c.2.1, true)
    | .join => x ++ y)
  | .once a => (rawA F a).map srt
  | .group a ns => ((rawA F a).map srt).bind fun cs => if ns.isEmpty then none else (groupCs cs ns).bind fun ds => guardO (nodupK ds) ds
  | .add a b => ((rawA F a).map srt).bind fun x => ((rawA F b).map srt).bind fun y => guardO (x.map (fun c => (c.1, c.2.1)) == y.map (fun c => (c.1, c.2.1))) (addCs x y)
  | .first a i => ((rawA F a).map srt).bind fun cs => guardO (decide (0 ≤ i)) cs
def okC (F : Fr) : Cd → Kds → Bool
  | .yes, _ => true
  | .is a b, ks => (match kindIn ks a, kindIn ks b with
    | some p, some q => p.1 == q.1
    | _, _ => false)
  | .less a b, ks => (match kindIn ks a, kindIn ks b with
    | some p, some q => p.1 == q.1
    | _, _ => false)
  | .isn a, ks => (kindIn ks a).isSome
  | .not c, ks => okC F c ks
  | .both c d, ks => okC F c ks && okC F d ks
  | .eith c d, ks => okC F c ks && okC F d ks
  | .som a c, ks => (match (rawA F a).map srt with
    | some is => is.all (fun p => (ks.lookup p.1).isNone) && okC F c (is ++ ks)
    | none => false)
end
def colsA (F : Fr) (a : Ak) : Option Cols := (rawA F a).map srt
end Pl
end
section
set_option autoImplicit false
set_option linter.all false
set_option maxRecDepth 100000
/-! P3: dicts of kinds; depths; sorting. -/
namespace Pl
open Ev K64
/-! ### dicts of kinds -/
def kput : Kds → Col → Kds
  | [], c => [c]
  | p :: r, c => if p.1 = c.1 then (p.1, c.2) :: r else p :: kput r c
def kindsOf (cs : Cols) : Kds := cs.foldl kput []
def keysE (ks : Kds) : List K0 := ks.map fun p => K0.s p.1
def valsE (ks : Kds) : List EV := ks.map fun p => EV.tup [.str p.2.1.s, .bl p.2.2]
theorem eK_eq (ks : Kds) : eK ks = .dct (keysE ks) (valsE ks) := rfl
theorem mem_keysE {ks : Kds} {n : S} : K0.s n ∈ keysE ks ↔ n ∈ ks.map (·.1) := by
  unfold keysE
  simp only [List.mem_map]
  constructor
  · rintro ⟨p, hp, e⟩; cases e; exact ⟨p, hp, rfl⟩
  · rintro ⟨p, hp, rfl⟩; exact ⟨p, hp, rfl⟩
theorem kput_names {ks : Kds} {c : Col} : (kput ks c).map (·.1) = if c.1 ∈ ks.map (·.1) then ks.map (·.1) else ks.map (·.1) ++ [c.1] := by
  induction ks with
  | nil => simp [kput]
  | cons p r ih =>
    unfold kput
    by_cases e : p.1 = c.1
    · simp [e]
    · have : ¬ c.1 = p.1 := fun z => e z.symm
      simp only [e, if_false, List.map_cons, ih, List.mem_cons, this, false_or]
      split <;> simp
theorem dputK_e (ks : Kds) (c : Col) : dputK (keysE ks) (.s c.1) = keysE (kput ks c) := by
  have h1 : ∀ l : Kds, keysE l = (l.map (·.1)).map K0.s := fun l => by simp [keysE, Function.comp_def]
  unfold dputK
  rw [h1 (kput ks c), kput_names]
  by_cases e : c.1 ∈ ks.map (·.1)
  · rw [if_pos (mem_keysE.mpr e), if_pos e, h1]
  · rw [if_neg fun z => e (mem_keysE.mp z), if_neg e, h1]; simp
theorem dputV_e (ks : Kds) (c : Col) : dputV (keysE ks) (valsE ks) (.s c.1) (.tup [.str c.2.1.s, .bl c.2.2]) = valsE (kput ks c) := by
  induction ks with
  | nil => rfl
  | cons p r ih =>
    unfold keysE valsE at *
    simp only [List.map_cons, dputV, kput]
    by_cases e : p.1 = c.1
    · simp [e]
    · have : ¬ K0.s p.1 = K0.s c.1 := fun z => e (by injection z)
      simp [e, ih]
theorem kput_new {ks : Kds} {c : Col} (h : c.1 ∉ ks.map (·.1)) : kput ks c = ks ++ [c] := by
  induction ks with
  | nil => rfl
  | cons p r ih =>
    simp only [List.map_cons, List.mem_cons, not_or] at h
    unfold kput
    rw [if_neg (fun z => h.1 z.symm), ih h.2]
    rfl
theorem kput_len {ks : Kds} {c : Col} : (kput ks c).length = if c.1 ∈ ks.map (·.1) then ks.length else ks.length + 1 := by
  have := congrArg List.length (kput_names (ks := ks) (c := c))
  rw [List.length_map] at this
  rw [this]
  split <;> simp
theorem fold_new : ∀ (cs : Cols) (ks : Kds), ((ks ++ cs).map (·.1)).Nodup → cs.foldl kput ks = ks ++ cs
  | [], ks, _ => by simp
  | c :: cs, ks, h => by
    rw [List.foldl_cons, kput_new, fold_new cs _ (by simpa using h)]
    · simp
    · rw [List.map_append, List.map_cons] at h
      have := (List.nodup_append.mp h).2.2
      exact fun m => this _ m _ (by simp) rfl
theorem kindsOf_nd {cs : Cols} (h : (cs.map (·.1)).Nodup) : kindsOf cs = cs := by
  unfold kindsOf
  rw [fold_new _ _ (by simpa using h)]; rfl
theorem fold_len : ∀ (cs : Cols) (ks : Kds), (cs.foldl kput ks).length ≤ ks.length + cs.length
  | [], ks => by simp
  | c :: cs, ks => by
    rw [List.foldl_cons]
    have := fold_len cs (kput ks c)
    rw [kput_len] at this
    simp only [List.length_cons]
    split at this <;> omega
theorem fold_nd : ∀ (cs : Cols) (ks : Kds), (ks.map (·.1)).Nodup → (cs.foldl kput ks).length = ks.length + cs.length → ((ks ++ cs).map (·.1)).Nodup
  | [], ks, h, _ => by simpa using h
  | c :: cs, ks, h, e => by
    rw [List.foldl_cons] at e
    have l := fold_len cs (kput ks c)
    rw [kput_len] at l
    simp only [List.length_cons] at e
    split at l
    · omega
    · rename_i hn
      rw [kput_new hn] at e
      have := fold_nd cs (ks ++ [c]) (by
        rw [List.map_append]
        refine List.nodup_append.mpr ⟨h, by simp, fun a ha b hb => ?_⟩
        simp at hb
        subst hb
        exact fun z => hn (z ▸ ha)) (by simp; omega)
      simpa using this
theorem kindsOf_len {cs : Cols} : decide ((kindsOf cs).length = cs.length) = nodupK cs := by
  unfold nodupK
  rw [decide_eq_decide]
  constructor
  · intro h
    have := fold_nd cs [] (by simp) (by simpa [kindsOf] using h)
    simpa using this
  · intro h; rw [kindsOf_nd h]
/-- d.update(e), nothing twice -/
theorem dmerge_e : ∀ (es ks : Kds), ((ks ++ es).map (·.1)).Nodup → dmerge (keysE es) (valsE es) (keysE ks) (valsE ks) = (keysE (ks ++ es), valsE (ks ++ es))
  | [], ks, _ => by simp [keysE, valsE, dmerge]
  | c :: es, ks, h => by
    have hn : c.1 ∉ ks.map (·.1) := by
      rw [List.map_append, List.map_cons] at h
      have := (List.nodup_append.mp h).2.2
      exact fun m => this _ m _ (by simp) rfl
    have ih := dmerge_e es (ks ++ [c]) (by simpa using h)
    have e1 : keysE (c :: es) = .s c.1 :: keysE es := rfl
    have e2 : valsE (c :: es) = .tup [.str c.2.1.s, .bl c.2.2] :: valsE es := rfl
    rw [e1, e2]
    simp only [dmerge]
    rw [dputK_e, dputV_e, kput_new hn, ih]
    simp
/-! ### depths -/
mutual
theorem shp_mono : ∀ (v : EV) {n m : Nat}, n ≤ m → shp n v = true → shp m v = true
  | .non, _, _, _, _ => by simp
  | .bl _, _, _, _, _ => by simp
  | .int _, _, _, _, _ => by simp
  | .str _, _, _, _, _ => by simp
  | .tup xs, 0, _, _, h => by cases h
  | .tup xs, n + 1, 0, h, _ => by omega
  | .tup xs, n + 1, m + 1, h, q => shps_mono xs (by omega) q
  | .lst xs, 0, _, _, h => by cases h
  | .lst xs, n + 1, 0, h, _ => by omega
  | .lst xs, n + 1, m + 1, h, q => shps_mono xs (by omega) q
  | .dct _ _, n, _, _, h => by cases n <;> cases h
  | .fro _, n, _, _, h => by cases n <;> cases h
  | .ref _, n, _, _, h => by cases n <;> cases h
  | .rep _, n, _, _, h => by cases n <;> cases h
theorem shps_mono : ∀ (v : List EV) {n m : Nat}, n ≤ m → shps n v = true → shps m v = true
  | [], _, _, _, _ => by simp
  | x :: xs, _, _, h, q => by
    simp only [shps_cons, Bool.and_eq_true] at q ⊢
    exact ⟨shp_mono x h q.1, shps_mono xs h q.2⟩
end
theorem shps_all {n : Nat} {xs : List EV} (h : ∀ x ∈ xs, shp n x = true) : shps n xs = true := by
  induction xs with
  | nil => simp
  | cons x xs ih => simp only [shps_cons, Bool.and_eq_true]; exact ⟨h x (by simp), ih fun y hy => h y (by simp [hy])⟩
theorem shpS : ∀ (m : Sm), shp (hS m) m.e = true
  | .col n => rfl
  | .num i => rfl
  | .txt s => rfl
  | .non k => rfl
  | .rek r a b => by
    unfold hS Sm.e
    rw [Nat.add_comm, shp_tupS]
    simp [shp_mono _ (Nat.le_max_left (hS a) (hS b)) (shpS a), shp_mono _ (Nat.le_max_right (hS a) (hS b)) (shpS b)]
theorem hPs_le {ps : List (S × Sm)} {p : S × Sm} (h : p ∈ ps) : hS p.2 ≤ hPs ps := by
  induction ps with
  | nil => cases h
  | cons q r ih =>
    unfold hPs
    rcases List.mem_cons.mp h with rfl | h
    · exact Nat.le_max_left _ _
    · exact Nat.le_trans (ih h) (Nat.le_max_right _ _)
mutual
theorem shpA : ∀ (a : Ak), shp (hA a) a.e = true
  | .table _ _ => rfl
  | .pick a c => by
    unfold hA Ak.e
    rw [Nat.add_comm, shp_tupS]
    simp [shp_mono _ (Nat.le_max_left (hA a) (hC c)) (shpA a), shp_mono _ (Nat.le_max_right (hA a) (hC c)) (shpC c)]
  | .shw a ps => by
    unfold hA Ak.e
    rw [Nat.add_comm, shp_tupS]
    have : shp (2 + hPs ps) (.tup (ps.map fun p => EV.tup [.str p.1, p.2.e])) = true := by
      rw [show 2 + hPs ps = hPs ps + 1 + 1 by omega, shp_tupS]
      refine shps_all fun x hx => ?_
      obtain ⟨p, hp, rfl⟩ := List.mem_map.mp hx
      rw [shp_tupS]
      simp [shp_mono _ (hPs_le hp) (shpS p.2)]
    simp [shp_mono _ (Nat.le_max_left (hA a) (2 + hPs ps)) (shpA a), shp_mono _ (Nat.le_max_right (hA a) (2 + hPs ps)) this]
  | .both w a b c => by
    unfold hA Ak.e
    rw [Nat.add_comm, shp_tupS]
    have l1 : hA a ≤ max (max (hA a) (hA b)) (hC c) := by omega
    have l2 : hA b ≤ max (max (hA a) (hA b)) (hC c) := by omega
    have l3 : hC c ≤ max (max (hA a) (hA b)) (hC c) := by omega
    simp only [shps_cons, shp_str, shps_nil, shp_mono _ l1 (shpA a), shp_mono _ l2 (shpA b), shp_mono _ l3 (shpC c)]
    rfl
  | .once a => by
    unfold hA Ak.e
    rw [Nat.add_comm, shp_tupS]
    simp [shpA a]
  | .group a ns => by
    unfold hA Ak.e
    rw [Nat.add_comm, shp_tupS]
    have : 1 ≤ hA a := by cases a <;> (unfold hA; omega)
    have h1 : shp 1 (.tup (ns.map .str)) = true := shps_all fun x hx => by
      obtain ⟨p, hp, rfl⟩ := List.mem_map.mp hx
      simp
    have h2 : shp 1 (.tup []) = true := rfl
    simp [shpA a, shp_mono _ this h1, shp_mono _ this h2]
  | .add a b => by
    unfold hA Ak.e
    rw [Nat.add_comm, shp_tupS]
    simp [shp_mono _ (Nat.le_max_left (hA a) (hA b)) (shpA a), shp_mono _ (Nat.le_max_right (hA a) (hA b)) (shpA b)]
  | .first a i => by
    unfold hA Ak.e
    rw [Nat.add_comm, shp_tupS]
    have : 1 ≤ hA a := by cases a <;> (unfold hA; omega)
    have h2 : shp 1 (.tup []) = true := rfl
    simp [shpA a, shp_mono _ this h2]
theorem shpC : ∀ (c : Cd), shp (hC c) c.e = true
  | .yes => rfl
  | .is a b => by
    unfold hC Cd.e
    rw [Nat.add_comm, shp_tupS]
    simp [shp_mono _ (Nat.le_max_left (hS a) (hS b)) (shpS a), shp_mono _ (Nat.le_max_right (hS a) (hS b)) (shpS b)]
  | .less a b => by
    unfold hC Cd.e
    rw [Nat.add_comm, shp_tupS]
    simp [shp_mono _ (Nat.le_max_left (hS a) (hS b)) (shpS a), shp_mono _ (Nat.le_max_right (hS a) (hS b)) (shpS b)]
  | .isn a => by
    unfold hC Cd.e
    rw [Nat.add_comm, shp_tupS]
    simp [shpS a]
  | .not c => by
    unfold hC Cd.e
    rw [Nat.add_comm, shp_tupS]
    simp [shpC c]
  | .both c d => by
    unfold hC Cd.e
    rw [Nat.add_comm, shp_tupS]
    simp [shp_mono _ (Nat.le_max_left (hC c) (hC d)) (shpC c), shp_mono _ (Nat.le_max_right (hC c) (hC d)) (shpC d)]
  | .eith c d => by
    unfold hC Cd.e
    rw [Nat.add_comm, shp_tupS]
    simp [shp_mono _ (Nat.le_max_left (hC c) (hC d)) (shpC c), shp_mono _ (Nat.le_max_right (hC c) (hC d)) (shpC d)]
  | .som a c => by
    unfold hC Cd.e
    rw [Nat.add_comm, shp_tupS]
    simp [shp_mono _ (Nat.le_max_left (hA a) (hC c)) (shpA a), shp_mono _ (Nat.le_max_right (hA a) (hC c)) (shpC c)]
end
/-! ### sorting -/
theorem srt_perm (cs : Cols) : List.Perm (srt cs) cs := List.mergeSort_perm cs leC
theorem sort_e (cs : Cols) : sortV (cs.map eCol) = some ((srt cs).map eCol) := by
  unfold sortV
  have : (cs.map eCol).all isT3 = true := by
    rw [List.all_eq_true]
    intro x hx
    obtain ⟨c, _, rfl⟩ := List.mem_map.mp hx
    rfl
  rw [this, Bool.or_true, if_pos rfl]
  unfold srt
  rw [List.map_mergeSort (r := leC) (s := leV) (f := eCol) (fun a _ b _ => rfl)]
end Pl
end
section
set_option autoImplicit false
set_option linter.all false
set_option maxRecDepth 100000
/-! P4: the columns of asks, as the program tells them. -/
namespace Pl
open Ev K64
def D0 : List K0 × List EV := dcts.getD 0 ([], [])
def D1 : List K0 × List EV := dcts.getD 1 ([], [])
def resC : Option Cols → Hh → Res EV
  | some cs, h => .ok (eCs cs) h
  | none, h => .exc 0 h
def resB : Bool → Hh → Res EV
  | true, h => .ok .non h
  | false, h => .exc 0 h
@[simp] theorem len_eCs (x : Cols) (h : Hh) : runBi .len [eCs x] h = .ok (.int x.length) h := by simp [eCs]
@[simp] theorem len_eK (x : Kds) (h : Hh) : runBi .len [eK x] h = .ok (.int x.length) h := by simp [eK]
@[simp] theorem seq_eCs (x : Cols) : seqOf (eCs x) = some (x.map eCol) := (rfl)
@[simp] theorem add_eCs (x y : Cols) (h : Hh) : opAdd (eCs x) (eCs y) h = if x.length + y.length ≤ L then .ok (eCs (x ++ y)) h else .bad := by simp [eCs]
@[simp] theorem add_eCsL (x : Cols) (ys : List EV) (h : Hh) : opAdd (eCs x) (.lst ys) h = if x.length + ys.length ≤ L then .ok (.lst (x.map eCol ++ ys)) h else .bad := by simp [eCs]
@[simp] theorem resB_t (h : Hh) : resB true h = .ok .non h := (rfl)
@[simp] theorem resB_f (h : Hh) : resB false h = .exc 0 h := (rfl)
@[simp] theorem resC_s (cs : Cols) (h : Hh) : resC (some cs) h = .ok (eCs cs) h := (rfl)
@[simp] theorem resC_n (h : Hh) : resC none h = .exc 0 h := (rfl)
@[simp] theorem kd_nt : (Kd.num == Kd.txt) = false := (rfl)
@[simp] theorem kd_tn : (Kd.txt == Kd.num) = false := (rfl)
@[simp] theorem eKo_n : eKo none = .non := (rfl)
@[simp] theorem eKo_s (p : Kd × Bool) : eKo (some p) = .tup [.str p.1.s, .bl p.2] := (rfl)
@[simp] theorem guard_t {α : Type} (x : α) : guardO true x = some x := (rfl)
@[simp] theorem guard_f {α : Type} (x : α) : guardO false x = none := (rfl)
theorem guard_some {α : Type} {b : Bool} {x y : α} : guardO b x = some y ↔ b = true ∧ x = y := by cases b <;> simp
theorem nodupK_iff {cs : Cols} : nodupK cs = true ↔ (cs.map (·.1)).Nodup := by unfold nodupK; simp
theorem srt_names {cs : Cols} : List.Perm ((srt cs).map (·.1)) (cs.map (·.1)) := (srt_perm cs).map _
theorem srt_len {cs : Cols} : (srt cs).length = cs.length := (srt_perm cs).length_eq
theorem srt_nd {cs : Cols} (h : (cs.map (·.1)).Nodup) : ((srt cs).map (·.1)).Nodup := srt_names.nodup_iff.mpr h
theorem shownCs_names {ks : Kds} : ∀ {ps : List (S × Sm)} {cs : Cols}, shownCs ks ps = some cs → cs.map (·.1) = ps.map (·.1)
  | [], cs, e => by cases e; rfl
  | p :: r, cs, e => by
    unfold shownCs at e
    split at e
    · split at e
      · split at e
        · rename_i q _ ds e2
          cases e
          simp [shownCs_names e2]
        · cases e
      · cases e
    · cases e
theorem groupCs_names {ks : Kds} : ∀ {ns : List S} {cs : Cols}, groupCs ks ns = some cs → cs.map (·.1) = ns
  | [], cs, e => by cases e; rfl
  | p :: r, cs, e => by
    unfold groupCs at e
    split at e
    · split at e
      · rename_i q _ _ ds e2
        cases e
        simp [groupCs_names e2]
      · cases e
    · cases e
theorem addCs_names : ∀ {x y : Cols}, x.map (fun c => (c.1, c.2.1)) = y.map (fun c => (c.1, c.2.1)) → (addCs x y).map (·.1) = x.map (·.1)
  | [], [], _ => rfl
  | [], _ :: _, e => by cases e
  | _ :: _, [], e => by cases e
  | a :: x, b :: y, e => by
    simp only [List.map_cons, List.cons.injEq] at e
    simp [addCs, addCs_names e.2]
theorem zPs_len : ∀ (ps : List (S × Sm)), ps.length ≤ zPs ps
  | [] => by simp
  | p :: r => by have := zPs_len r; unfold zPs; simp only [List.length_cons]; omega
theorem zPs_mem : ∀ {ps : List (S × Sm)} {p : S × Sm}, p ∈ ps → p.1.length + 3 ≤ zPs ps
  | q :: r, p, h => by
    unfold zPs
    rcases List.mem_cons.mp h with rfl | h
    · omega
    · have := zPs_mem h; omega
/-- names once, and not too many -/
theorem raw_ok {F : Fr} (hF : FrOk F) : ∀ (a : Ak) {cs : Cols}, rawA F a = some cs → (cs.map (·.1)).Nodup ∧ cs.length ≤ zA a
  | .table n al, cs, e => by
    unfold rawA at e
    cases ht : F.tabs.find? fun t => t.name == n with
    | none => rw [ht] at e; cases e
    | some t =>
      rw [ht] at e
      obtain ⟨hw, rfl⟩ := guard_some.mp e
      have T := hF.tb t (List.mem_of_find?_eq_some ht)
      refine ⟨?_, by simp [zA, T.few]⟩
      have := T.nd
      rw [List.map_map]
      show (t.fields.map fun c => al ++ [46] ++ c.1).Nodup
      have e2 : (t.fields.map fun c => al ++ [46] ++ c.1) = (t.fields.map (·.1)).map fun s => al ++ [46] ++ s := by simp [Function.comp_def]
      rw [e2]
      exact List.Pairwise.map _ (fun x y hne z => hne (by simpa using z)) this
  | .pick a c, cs, e => by
    unfold rawA at e
    cases ha : rawA F a with
    | none => rw [ha] at e; cases e
    | some x =>
      rw [ha] at e
      obtain ⟨_, rfl⟩ := guard_some.mp e
      have := raw_ok hF a ha
      exact ⟨srt_nd this.1, by rw [srt_len]; unfold zA; omega⟩
  | .shw a ps, cs, e => by
    unfold rawA at e
    cases ha : rawA F a with
    | none => rw [ha] at e; cases e
    | some x =>
      rw [ha] at e
      simp only [Option.map_some, Option.bind_some] at e
      split at e
      · cases e
      · cases hd : shownCs (srt x) ps with
        | none => rw [hd] at e; cases e
        | some ds =>
          rw [hd] at e
          obtain ⟨hn, rfl⟩ := guard_some.mp e
          refine ⟨nodupK_iff.mp hn, ?_⟩
          have := congrArg List.length (shownCs_names hd)
          rw [List.length_map, List.length_map] at this
          have := zPs_len ps
          unfold zA; omega
  | .both w a b c, cs, e => by
    unfold rawA at e
    cases ha : rawA F a with
    | none => rw [ha] at e; cases e
    | some x =>
      rw [ha] at e
      cases hb : rawA F b with
      | none => rw [hb] at e; cases e
      | some y =>
        rw [hb] at e
        simp only [Option.map_some, Option.bind_some] at e
        obtain ⟨hn, rfl⟩ := guard_some.mp e
        rw [Bool.and_eq_true, nodupK_iff] at hn
        have h1 := (raw_ok hF a ha).2
        have h2 := (raw_ok hF b hb).2
        have n1 : ((srt x).map (·.1)).Nodup := srt_nd (raw_ok hF a ha).1
        unfold zA
        cases w with
        | join => exact ⟨hn.1, by simp [srt_len]; omega⟩
        | left =>
          refine ⟨?_, by simp [srt_len]; omega⟩
          have := hn.1
          rw [List.map_append] at this ⊢
          rw [List.map_map]
          exact this
        | half => exact ⟨n1, by simp [srt_len]; omega⟩
        | lack => exact ⟨n1, by simp [srt_len]; omega⟩
  | .once a, cs, e => by
    unfold rawA at e
    cases ha : rawA F a with
    | none => rw [ha] at e; cases e
    | some x =>
      rw [ha] at e
      cases e
      have := raw_ok hF a ha
      exact ⟨srt_nd this.1, by rw [srt_len]; unfold zA; omega⟩
  | .group a ns, cs, e => by
    unfold rawA at e
    cases ha : rawA F a with
    | none => rw [ha] at e; cases e
    | some x =>
      rw [ha] at e
      simp only [Option.map_some, Option.bind_some] at e
      split at e
      · cases e
      · cases hd : groupCs (srt x) ns with
        | none => rw [hd] at e; cases e
        | some ds =>
          rw [hd] at e
          obtain ⟨hn, rfl⟩ := guard_some.mp e
          refine ⟨nodupK_iff.mp hn, ?_⟩
          have := congrArg List.length (groupCs_names hd)
          rw [List.length_map] at this
          unfold zA; omega
  | .add a b, cs, e => by
    unfold rawA at e
    cases ha : rawA F a with
    | none => rw [ha] at e; cases e
    | some x =>
      rw [ha] at e
      cases hb : rawA F b with
      | none => rw [hb] at e; cases e
      | some y =>
        rw [hb] at e
        simp only [Option.map_some, Option.bind_some] at e
        obtain ⟨hn, rfl⟩ := guard_some.mp e
        have hn := addCs_names (eq_of_beq hn)
        have h1 := raw_ok hF a ha
        rw [hn]
        refine ⟨srt_nd h1.1, ?_⟩
        have := congrArg List.length hn
        rw [List.length_map, List.length_map, srt_len] at this
        unfold zA; omega
  | .first a i, cs, e => by
    unfold rawA at e
    cases ha : rawA F a with
    | none => rw [ha] at e; cases e
    | some x =>
      rw [ha] at e
      obtain ⟨_, rfl⟩ := guard_some.mp e
      have := raw_ok hF a ha
      exact ⟨srt_nd this.1, by rw [srt_len]; unfold zA; omega⟩
theorem cols_ok {F : Fr} (hF : FrOk F) {a : Ak} {cs : Cols} (e : colsA F a = some cs) : (cs.map (·.1)).Nodup ∧ cs.length ≤ zA a := by
  unfold colsA at e
  cases ha : rawA F a with
  | none => rw [ha] at e; cases e
  | some x =>
    rw [ha] at e
    cases e
    have := raw_ok hF a ha
    exact ⟨srt_nd this.1, by rw [srt_len]; exact this.2⟩
theorem lookup_none {ks : Kds} {n : S} : (ks.lookup n).isNone = decide (n ∉ ks.map (·.1)) := by
  induction ks with
  | nil => simp
  | cons p r ih =>
    obtain ⟨m, q⟩ := p
    rw [List.lookup_cons]
    by_cases e : n = m
    · subst e; simp
    · have : (n == m) = false := by simp [e]
      rw [this]
      simp only [ih, List.map_cons, List.mem_cons, e, false_or]
theorem splitS_len (c : Nat) : ∀ s : S, (splitS c s).length ≤ s.length + 1
  | [] => by simp [splitS]
  | x :: r => by
    have := splitS_len c r
    unfold splitS
    split
    · simp; omega
    · split
      · rename_i e
        rw [e] at this
        simp at this ⊢; omega
      · simp
theorem shownCs_cons (ks : Kds) (p : S × Sm) (r : List (S × Sm)) : shownCs ks (p :: r) = if isName p.1 then (match kindIn ks p.2 with
    | some q => (match shownCs ks r with
      | some cs => some ((p.1, q) :: cs)
      | none => none)
    | none => none) else none := rfl
theorem len_beq (a b : Nat) : ((a : Int) == (b : Int)) = decide (a = b) := by
  by_cases z : a = b
  · simp [z]
  · simp [z]; omega
theorem groupCs_cons (ks : Kds) (n : S) (r : List S) : groupCs ks (n :: r) = (match ks.lookup n with
    | some q => (match groupCs ks r with
      | some cs => some ((n, q) :: cs)
      | none => none)
    | none => none) := rfl
theorem lookup_mem {ks : Kds} {n : S} {q : Kd × Bool} (h : ks.lookup n = some q) : (n, q) ∈ ks := by
  induction ks with
  | nil => cases h
  | cons p r ih =>
    obtain ⟨m, u⟩ := p
    rw [List.lookup_cons] at h
    by_cases e : n = m
    · subst e; simp at h; subst h; simp
    · have : (n == m) = false := by simp [e]
      rw [this] at h
      exact List.mem_cons_of_mem _ (ih h)
theorem lookup_of {ks : Kds} {n : S} {q : Kd × Bool} (hd : (ks.map (·.1)).Nodup) (h : (n, q) ∈ ks) : ks.lookup n = some q := by
  induction ks with
  | nil => cases h
  | cons p r ih =>
    obtain ⟨m, u⟩ := p
    rw [List.lookup_cons]
    rw [List.map_cons, List.nodup_cons] at hd
    rcases List.mem_cons.mp h with e | h
    · cases e; simp
    · have : ¬ n = m := fun z => hd.1 (z ▸ (List.mem_map.mpr ⟨(n, q), h, rfl⟩ : n ∈ r.map (·.1)))
      have : (n == m) = false := by simp [this]
      rw [this]
      exact ih hd.2 h
theorem lookup_iff {ks : Kds} {n : S} {q : Kd × Bool} (hd : (ks.map (·.1)).Nodup) : ks.lookup n = some q ↔ (n, q) ∈ ks := ⟨lookup_mem, lookup_of hd⟩
theorem addCs_e : ∀ (x y : Cols), pair2 (x.map eCol) (y.map eCol) = (x.zip y).map fun p => .tup [eCol p.1, eCol p.2]
  | [], _ => by simp [pair2]
  | _ :: _, [] => by simp [pair2]
  | a :: x, b :: y => by simp [pair2, addCs_e x y]
theorem addCs_zip : ∀ (x y : Cols), addCs x y = (x.zip y).map fun p => (p.1.1, p.1.2.1, p.1.2.2 || p.2.2.2)
  | [], _ => by simp [addCs]
  | _ :: _, [] => by simp [addCs]
  | a :: x, b :: y => by simp [addCs, addCs_zip x y]
theorem cut02 (a b c : EV) : cut [a, b, c] none (some 2) = [a, b] := rfl
theorem cols_eqv : ∀ (x y : Cols), eqvs (x.map fun c => EV.tup [.str c.1, .str c.2.1.s]) (y.map fun c => EV.tup [.str c.1, .str c.2.1.s]) = (x.map (fun c => (c.1, c.2.1)) == y.map (fun c => (c.1, c.2.1)))
  | [], [] => rfl
  | [], _ :: _ => rfl
  | _ :: _, [] => rfl
  | a :: x, b :: y => by
    simp only [List.map_cons, eqvs_cc, eqv_tup, eqv_str, eqvs_nil, Bool.and_true, cols_eqv x y, Kd.s_inj]
    rfl
theorem cols_shp (n : Nat) : ∀ (x : Cols), shps (n + 1) (x.map fun c => EV.tup [.str c.1, .str c.2.1.s]) = true
  | [] => by simp
  | a :: x => by
    simp only [List.map_cons, shps_cons, shp_tupS, shp_str, shps_nil, cols_shp n x]; rfl
@[simp] theorem in_eK (ks : Kds) (n : S) : inR (.str n) (eK ks) = some (ks.lookup n).isSome := by
  rw [eK_eq, in_dct_s]
  congr 1
  have := lookup_none (ks := ks) (n := n)
  cases e : ks.lookup n with
  | none =>
    rw [e] at this
    have this := of_decide_eq_true (Eq.symm this)
    rw [Option.isSome_none, decide_eq_false_iff_not, mem_keysE]
    exact this
  | some q =>
    rw [e] at this
    have this := of_decide_eq_false (Eq.symm this)
    rw [Option.isSome_some, decide_eq_true_eq, mem_keysE]
    exact Classical.not_not.mp this
@[simp] theorem ix_eK (ks : Kds) (n : S) (h : Hh) : opIdx (eK ks) (.str n) h = (match ks.lookup n with
    | some q => .ok (.tup [.str q.1.s, .bl q.2]) h
    | none => .bad) := by
  rw [eK_eq, ix_ds]
  have := dget_eK ks n
  unfold keysE valsE
  rw [this]
  cases ks.lookup n <;> rfl
section
variable {M : Mo} (H : Has M) {k : Nat} {h : Hh} {F : Fr}
include H
theorem dc0 : ∀ k, (M.cx k).dct 0 = D0 := fun k => by rw [cx_dc, H.dc 0 (by decide)]; rfl
theorem dc1 : ∀ k, (M.cx k).dct 1 = D1 := fun k => by rw [cx_dc, H.dc 1 (by decide)]; rfl
theorem need_ok {b : Bool} (hk : 0 < k) : (M.cx k).callF 7 [.bl b] h = resB b h := by
  cases b
  · exact need_f H hk
  · exact need_t H hk
theorem kinds_of_ok {cs : Cols} (hk : 0 < k) (hl : cs.length ≤ L) : (M.cx k).callF 8 [eCs cs] h = .ok (eK (kindsOf cs)) h := by
  rw [call_of (H.df 8 f_kinds_of (by decide) (by decide) rfl) hk]
  refine RW_eq (RW_run rfl ?_)
  simp [f_kinds_of, startE, eCs]
  refine SW_for eCol (fun r env h' => ∃ ks a b c, env = [some (.val (eCs cs)), some (.oD (keysE ks) (valsE ks)), a, b, c] ∧ h' = h ∧ r.foldl kput ks = kindsOf cs ∧ ks.length + r.length ≤ L) cs ⟨[], _, _, _, rfl, rfl, rfl, by simpa using hl⟩ ?_ ?_
  · rintro c r env h' ⟨ks, a, b, d, rfl, rfl, e, l⟩
    simp only [List.length_cons] at l
    have l1 : (keysE ks).length < L := by simp [keysE]; omega
    simp [eCol, l1, dputK_e, dputV_e]
    refine ⟨kput ks c, ⟨rfl, rfl⟩, e, ?_⟩
    rw [kput_len]; split <;> omega
  · rintro env h' ⟨ks, a, b, d, rfl, rfl, e, l⟩
    simp [← e, eK_eq]
theorem compared_is (ks : Kds) (a b : Sm) (hk : max (hS a) (hS b) + 3 ≤ k) (e : EV) : (M.cx k).callF 9 [.tup [e, a.e, b.e], eK ks] h = resB (match kindIn ks a, kindIn ks b with
    | some p, some q => p.1 == q.1
    | _, _ => false) h := by
  rw [call_of (H.df 9 f_need_compared (by decide) (by decide) rfl) (by omega)]
  refine RW_is (RW_run rfl ?_)
  have ha := kind_in_ok H (h := h) ks a (k := k - 1) (by omega)
  have hb := kind_in_ok H (h := h) ks b (k := k - 1) (by omega)
  have hn : ∀ b, (M.cx (k - 1)).callF 7 [.bl b] h = resB b h := fun b => need_ok H (by omega)
  simp [f_need_compared, startE, ha, hb]
  rcases kindIn ks a with _ | ⟨ka, ma⟩
  · simp [eKo, hn, resB]
  · rcases kindIn ks b with _ | ⟨kb, mb⟩
    · simp [eKo, hn, resB]
    · simp [eKo, hn]
      cases ka <;> cases kb <;> simp [Kd.s, resB]
theorem named_ok {F : Fr} {n : S} (hk : 0 < k) : (M.cx k).callF 3 [F.e, .str n] h = .ok (match F.tabs.find? fun t => t.name == n with
    | some t => t.e
    | none => .non) h := by
  rw [call_of (H.df 3 f_table_named (by decide) (by decide) rfl) hk]
  refine RW_eq (RW_run rfl ?_)
  simp [f_table_named, startE, Fr.e]
  refine SW_for Tb.e (fun r env h' => ∃ a, env = [some (.val (.tup [.tup (F.tabs.map Tb.e), F.pts])), some (.val (.str n)), a] ∧ h' = h ∧ (F.tabs.find? fun t => t.name == n) = r.find? fun t => t.name == n) F.tabs ⟨_, rfl, rfl, rfl⟩ ?_ ?_
  · rintro t r env h' ⟨a, rfl, rfl, e⟩
    rw [List.find?_cons] at e
    simp [Tb.e]
    cases hb : t.name == n with
    | true => simp [hb] at e; simp [e]
    | false => simp [hb] at e; simp [e, Tb.e]
  · rintro env h' ⟨a, rfl, rfl, e⟩
    simp [e]
theorem of_table_ok {F : Fr} (hF : FrOk F) {n al : S} (hk : 2 ≤ k) : (M.cx k).callF 11 [F.e, (Ak.table n al).e] h = resC (rawA F (.table n al)) h := by
  rw [call_of (H.df 11 f_of_table (by decide) (by decide) rfl) (by omega)]
  refine RW_is (RW_run rfl ?_)
  have h1 := named_ok H (h := h) (F := F) (n := n) (k := k - 1) (by omega)
  have h2 := is_word_ok H (h := h) (s := al) (k := k - 1) (by omega)
  have hn : ∀ b, (M.cx (k - 1)).callF 7 [.bl b] h = resB b h := fun b => need_ok H (by omega)
  unfold rawA
  simp [f_of_table, startE, Ak.e, h1]
  cases ht : F.tabs.find? fun t => t.name == n with
  | none => simp [hn]
  | some t =>
    have T := hF.tb t (List.mem_of_find?_eq_some ht)
    simp [h2, hn, Tb.e]
    cases hw : isWord al with
    | false => simp
    | true =>
      have la : al.length ≤ 8 := by unfold isWord at hw; simp at hw; exact hw.1.2
      have l1 : al.length + 1 ≤ L := by have : L = 16777216 := rfl; omega
      simp
      rw [comps_map (f := fun c => .tup [.str (al ++ 46 :: c.1), .str c.2.1.s, .bl c.2.2]) _ _ (by have := T.few; have : L = 16777216 := rfl; simp; omega) (fun c hc => ⟨_, rfl, ?_⟩)]
      · simp [eCs, Function.comp_def, eCol]
      · have lc : c.1.length ≤ 8 := by have := T.words c hc; unfold isWord at this; simp at this; exact this.1.2
        have l2 : al.length + 1 + c.1.length ≤ L := by have : L = 16777216 := rfl; omega
        simp [l1, l2]
theorem of_pick_ok {F : Fr} (hF : FrOk F) {a : Ak} {c : Cd} (hk : 2 ≤ k) (hl : zA a ≤ L) (h1 : (M.cx (k - 1)).callF 21 [F.e, a.e] h = resC (colsA F a) h) (h2 : ∀ cs, colsA F a = some cs → (M.cx (k - 1)).callF 10 [F.e, c.e, eK cs] h = resB (okC F c cs) h) :
    (M.cx k).callF 19 [F.e, (Ak.pick a c).e] h = resC (rawA F (.pick a c)) h := by
  rw [call_of (H.df 19 f_of_pick (by decide) (by decide) rfl) (by omega)]
  refine RW_is (RW_run rfl ?_)
  unfold rawA
  rw [← colsA]
  simp [f_of_pick, startE, Ak.e, h1]
  cases hc : colsA F a with
  | none => simp
  | some cs =>
    have := cols_ok hF hc
    simp [kinds_of_ok H (h := h) (k := k - 1) (cs := cs) (by omega) (by omega), kindsOf_nd this.1, h2 cs hc]
    cases okC F c cs <;> simp
theorem of_show_ok {F : Fr} (hF : FrOk F) {a : Ak} {ps : List (S × Sm)} (hk : 2 ≤ k) (hl : zA a + zPs ps ≤ L) (hd : hPs ps + 4 ≤ k) (hs : hPs ps ≤ 57) (h1 : (M.cx (k - 1)).callF 21 [F.e, a.e] h = resC (colsA F a) h) :
    (M.cx k).callF 12 [F.e, (Ak.shw a ps).e] h = resC (rawA F (.shw a ps)) h := by
  rw [call_of (H.df 12 f_of_show (by decide) (by decide) rfl) (by omega)]
  refine RW_is (RW_run rfl ?_)
  have hn : ∀ b, (M.cx (k - 1)).callF 7 [.bl b] h = resB b h := fun b => need_ok H (by omega)
  unfold rawA
  rw [← colsA]
  simp [f_of_show, startE, Ak.e, h1]
  cases hc : colsA F a with
  | none => simp
  | some cs =>
    have N := cols_ok hF hc
    have hps : shps 59 (ps.map fun p => EV.tup [.str p.1, p.2.e]) = true := shps_all fun x hx => by
      obtain ⟨p, hp, rfl⟩ := List.mem_map.mp hx
      rw [shp59_tup]
      have := hPs_le hp
      simp [shp_mono _ (show hS p.2 ≤ 58 by omega) (shpS p.2)]
    simp [kinds_of_ok H (h := h) (k := k - 1) (cs := cs) (by omega) (by omega), kindsOf_nd N.1, hn, hps]
    by_cases hne : ps = []
    · subst hne; simp
    · have : eqvs (ps.map fun p => EV.tup [.str p.1, p.2.e]) [] = false := by
        cases ps with
        | nil => exact (hne rfl).elim
        | cons p r => rfl
      simp [this, hne]
      refine SW_for (fun p : S × Sm => EV.tup [.str p.1, p.2.e]) (fun r env h' => ∃ ds a4 a5, env = [some (.val F.e), some (.val (.tup [.str [115, 104, 111, 119], a.e, .tup (ps.map fun p => EV.tup [.str p.1, p.2.e])])), some (.val (eK cs)), some (.oL (ds.map eCol)), a4, a5] ∧ h' = h ∧
        shownCs cs ps = (shownCs cs r).map (ds ++ ·) ∧ ds.length + r.length ≤ L ∧ ∀ p ∈ r, p ∈ ps) ps ⟨[], none, none, rfl, rfl, by simp, by have := zPs_len ps; simp; omega, fun p q => q⟩ ?_ ?_
      · rintro p r env h' ⟨ds, a4, a5, rfl, rfl, e, l, sub⟩
        have hp := sub p (by simp)
        have hz := zPs_mem hp
        have hh := hPs_le hp
        have e1 := is_name_ok H (h := h') (s := p.1) (k := k - 1) (by omega) (by omega) (by have := splitS_len 46 p.1; omega)
        have e2 := kind_in_ok H (h := h') cs p.2 (k := k - 1) (by omega)
        simp only [List.length_cons] at l
        have l1 : ds.length < L := by omega
        rw [shownCs_cons] at e
        simp [e1, hn]
        cases hb : isName p.1 with
        | false => simp [hb] at e; simp [e]
        | true =>
          simp [hb] at e
          simp [e2]
          cases hq : kindIn cs p.2 with
          | none => simp [hq] at e; simp [e, hn]
          | some q =>
            simp [hq] at e
            simp [hn, l1]
            refine ⟨ds ++ [(p.1, q)], by simp [eCol], ?_, by simp; omega, fun x y hx => sub (x, y) (by simp [hx])⟩
            rw [e]
            cases shownCs cs r <;> simp
      · rintro env h' ⟨ds, a4, a5, rfl, rfl, e, l, sub⟩
        simp [shownCs] at e
        simp at l
        have l2 := kinds_of_ok H (h := h') (k := k - 1) (cs := ds) (by omega) l
        have l3 := kindsOf_len (cs := ds)
        rw [eCs] at l2
        simp [l2, e, eK, hn, len_beq, l3]
        cases nodupK ds <;> simp [eCs]
theorem of_both_ok {F : Fr} (hF : FrOk F) {w : Jn} {a b : Ak} {c : Cd} (hk : 2 ≤ k) (hl : zA a + zA b ≤ L) (h1 : (M.cx (k - 1)).callF 21 [F.e, a.e] h = resC (colsA F a) h) (h2 : (M.cx (k - 1)).callF 21 [F.e, b.e] h = resC (colsA F b) h)
    (h3 : ∀ cs, (cs.map (·.1)).Nodup → cs.length ≤ zA a + zA b → (M.cx (k - 1)).callF 10 [F.e, c.e, eK cs] h = resB (okC F c cs) h) :
    (M.cx k).callF 13 [F.e, (Ak.both w a b c).e] h = resC (rawA F (.both w a b c)) h := by
  rw [call_of (H.df 13 f_of_both (by decide) (by decide) rfl) (by omega)]
  refine RW_is (RW_run rfl ?_)
  have hn : ∀ b, (M.cx (k - 1)).callF 7 [.bl b] h = resB b h := fun b => need_ok H (by omega)
  unfold rawA
  rw [← colsA, ← colsA]
  cases hc : colsA F a with
  | none => simp [f_of_both, startE, Ak.e, h1, hc]
  | some x =>
    cases hd : colsA F b with
    | none => simp [f_of_both, startE, Ak.e, h1, hc, h2, hd]
    | some y =>
      have N1 := cols_ok hF hc
      have N2 := cols_ok hF hd
      have l1 : x.length + y.length ≤ L := by omega
      have l2 := kinds_of_ok H (h := h) (k := k - 1) (cs := x ++ y) (by omega) (by simp; omega)
      have l3 := kindsOf_len (cs := x ++ y)
      have l4 : (((kindsOf (x ++ y)).length : Int) == (x.length : Int) + (y.length : Int)) = nodupK (x ++ y) := by
        rw [← l3, ← len_beq, List.length_append]; rfl
      cases hnd : nodupK (x ++ y) with
      | false => simp [f_of_both, startE, Ak.e, h1, hc, h2, hd, l1, l2, hn, l4, hnd]
      | true =>
        have nd := nodupK_iff.mp hnd
        have l5 := h3 (x ++ y) nd (by simp; omega)
        rw [kindsOf_nd nd] at l2 l4
        cases hcc : okC F c (x ++ y) with
        | false =>
          rw [hcc] at l5
          simp [f_of_both, startE, Ak.e, h1, hc, h2, hd, l1, l2, hn, l4, hnd, hcc, l5]
        | true =>
          rw [hcc] at l5
          cases w <;> simp [f_of_both, startE, Ak.e, h1, hc, h2, hd, l1, l2, hn, l4, hnd, hcc, l5, Jn.s]
          rw [comps_map (f := fun c => .tup [.str c.1, .str c.2.1.s, .bl true]) _ _ (by simp; omega) (fun c hc => ⟨_, rfl, by simp⟩)]
          have l6 : List.length x + List.length y ≤ L := l1
          simp [l6, Function.comp_def, eCol, eCs]
theorem of_add_ok {F : Fr} (hF : FrOk F) {a b : Ak} (hk : 2 ≤ k) (hl : zA a + zA b ≤ L) (h1 : (M.cx (k - 1)).callF 21 [F.e, a.e] h = resC (colsA F a) h) (h2 : (M.cx (k - 1)).callF 21 [F.e, b.e] h = resC (colsA F b) h) :
    (M.cx k).callF 16 [F.e, (Ak.add a b).e] h = resC (rawA F (.add a b)) h := by
  rw [call_of (H.df 16 f_of_add (by decide) (by decide) rfl) (by omega)]
  refine RW_is (RW_run rfl ?_)
  have hn : ∀ b, (M.cx (k - 1)).callF 7 [.bl b] h = resB b h := fun b => need_ok H (by omega)
  unfold rawA
  rw [← colsA, ← colsA]
  simp [f_of_add, startE, Ak.e, h1]
  cases hc : colsA F a with
  | none => simp
  | some x =>
    simp [h2]
    cases hd : colsA F b with
    | none => simp
    | some y =>
      have N1 := cols_ok hF hc
      have N2 := cols_ok hF hd
      simp [eCs]
      rw [comps_map (f := fun c => .tup [.str c.1, .str c.2.1.s]) _ _ (by simp; omega) (fun c hc => ⟨_, rfl, by simp [eCol, cut02]⟩)]
      simp
      rw [comps_map (f := fun c => .tup [.str c.1, .str c.2.1.s]) _ _ (by simp; omega) (fun c hc => ⟨_, rfl, by simp [eCol, cut02]⟩)]
      simp [cols_eqv, cols_shp 58, hn]
      cases hq : (x.map (fun c => (c.1, c.2.1)) == y.map (fun c => (c.1, c.2.1))) with
      | false => simp
      | true =>
        simp [addCs_e]
        rw [comps_map (f := fun p : Col × Col => .tup [.str p.1.1, .str p.1.2.1.s, .bl (p.1.2.2 || p.2.2.2)]) _ _ (by simp; omega) (fun p hp => ⟨_, rfl, by
          simp [eCol]
          cases p.1.2.2 <;> simp⟩)]
        simp [addCs_zip, Function.comp_def, eCol, eCs]
theorem of_first_ok {F : Fr} (hF : FrOk F) {a : Ak} {i : Int} (hk : 3 ≤ k) (hl : zA a ≤ L) (h1 : (M.cx (k - 1)).callF 21 [F.e, a.e] h = resC (colsA F a) h) :
    (M.cx k).callF 18 [F.e, (Ak.first a i).e] h = resC (rawA F (.first a i)) h := by
  rw [call_of (H.df 18 f_of_first (by decide) (by decide) rfl) (by omega)]
  refine RW_is (RW_run rfl ?_)
  have hn : ∀ b, (M.cx (k - 1)).callF 7 [.bl b] h = resB b h := fun b => need_ok H (by omega)
  unfold rawA
  rw [← colsA]
  simp [f_of_first, startE, Ak.e, h1]
  cases hc : colsA F a with
  | none => simp
  | some x =>
    have N := cols_ok hF hc
    have l0 : ∀ ks, (M.cx (k - 1)).callF 17 [.tup [], eK ks] h = .ok .non h := fun ks => by
      rw [call_of (H.df 17 f_need_keys (by decide) (by decide) rfl) (by omega)]
      refine RW_is (RW_run rfl ?_)
      have hn : ∀ b, (M.cx (k - 1 - 1)).callF 7 [.bl b] h = resB b h := fun b => need_ok H (by omega)
      simp [f_need_keys, startE, hn, turns]
    simp [kinds_of_ok H (h := h) (k := k - 1) (cs := x) (by omega) (by omega), l0, is_whole_ok H (k := k - 1) (by omega : 0 < k - 1), hn]
    cases decide (0 ≤ i) <;> simp
theorem of_group_ok {F : Fr} (hF : FrOk F) {a : Ak} {ns : List S} (hk : 2 ≤ k) (hl : zA a + ns.length ≤ L) (h1 : (M.cx (k - 1)).callF 21 [F.e, a.e] h = resC (colsA F a) h) :
    (M.cx k).callF 15 [F.e, (Ak.group a ns).e] h = resC (rawA F (.group a ns)) h := by
  rw [call_of (H.df 15 f_of_group (by decide) (by decide) rfl) (by omega)]
  refine RW_is (RW_run rfl ?_)
  have hn : ∀ b, (M.cx (k - 1)).callF 7 [.bl b] h = resB b h := fun b => need_ok H (by omega)
  unfold rawA
  rw [← colsA]
  simp [f_of_group, startE, Ak.e, h1]
  cases hc : colsA F a with
  | none => simp
  | some cs =>
    have N := cols_ok hF hc
    have l0 : ns.length ≤ L := by omega
    have hps : shps 59 (ns.map EV.str) = true := shps_all fun x hx => by
      obtain ⟨p, hp, rfl⟩ := List.mem_map.mp hx
      simp
    simp [kinds_of_ok H (h := h) (k := k - 1) (cs := cs) (by omega) (by omega), kindsOf_nd N.1, hn, hps, l0]
    by_cases hne : ns = []
    · subst hne; simp
    · have : eqvs (ns.map EV.str) [] = false := by
        cases ns with
        | nil => exact (hne rfl).elim
        | cons p r => rfl
      simp [this, hne]
      refine SW_for (fun p : S => EV.str p) (fun r env h' => ∃ ds a4 a5, env = [some (.val F.e), some (.val (.tup [.str [103, 114, 111, 117, 112], a.e, .tup (ns.map EV.str), .tup []])), some (.val (eK cs)), some (.oL (ds.map eCol)), a4, a5] ∧ h' = h ∧
        groupCs cs ns = (groupCs cs r).map (ds ++ ·) ∧ ds.length + r.length ≤ L) ns ⟨[], none, none, rfl, rfl, by simp, by simpa using l0⟩ ?_ ?_
      · rintro p r env h' ⟨ds, a4, a5, rfl, rfl, e, l⟩
        simp only [List.length_cons] at l
        have l1 : ds.length < L := by omega
        rw [groupCs_cons] at e
        simp [hn, l1]
        cases hq : cs.lookup p with
        | none => simp [hq] at e; simp [e]
        | some q =>
          simp [hq] at e
          simp [l1]
          refine ⟨ds ++ [(p, q)], by simp [eCol], ?_, by simp; omega⟩
          rw [e]
          cases groupCs cs r <;> simp
      · rintro env h' ⟨ds, a4, a5, rfl, rfl, e, l⟩
        simp [groupCs] at e
        simp at l
        have l2 := kinds_of_ok H (h := h') (k := k - 1) (cs := ds) (by omega) l
        have l3 := kindsOf_len (cs := ds)
        rw [eCs] at l2
        simp [turns, l2, e, eK, hn, len_beq, l3]
        cases nodupK ds <;> simp [eCs]
end
theorem cut_a1 (x y : EV) (h : Hh) : opCut (.tup [x, y]) (some 1) none h = .ok (.tup [y]) h := rfl
theorem cut_a2 (x y z : EV) (h : Hh) : opCut (.tup [x, y, z]) (some 1) none h = .ok (.tup [y, z]) h := rfl
theorem e_tup (a : Ak) : ∃ w r, a.e = .tup (.str w :: r) := by cases a <;> exact ⟨_, _, rfl⟩
theorem c_tup (a : Cd) : ∃ w r, a.e = .tup (.str w :: r) := by cases a <;> exact ⟨_, _, rfl⟩
theorem hA_pos (a : Ak) : 1 ≤ hA a := by cases a <;> (unfold hA; omega)
theorem hC_pos (a : Cd) : 1 ≤ hC a := by cases a <;> (unfold hC; omega)
theorem shp60A {a : Ak} (h : hA a ≤ 60) : shp 60 a.e = true := shp_mono _ h (shpA a)
theorem shp60C {a : Cd} (h : hC a ≤ 60) : shp 60 a.e = true := shp_mono _ h (shpC a)
@[simp] theorem isin_A (a : Ak) (t : Ty) (h : Hh) : runBi (.isinst t) [a.e] h = .ok (.bl (t == .tuple)) h := by cases a <;> rfl
@[simp] theorem isin_C (a : Cd) (t : Ty) (h : Hh) : runBi (.isinst t) [a.e] h = .ok (.bl (t == .tuple)) h := by cases a <;> rfl
def Ak.w : Ak → S
  | .table _ _ => [116, 97, 98, 108, 101]
  | .pick _ _ => [112, 105, 99, 107]
  | .shw _ _ => [115, 104, 111, 119]
  | .both w _ _ _ => w.s
  | .once _ => [111, 110, 99, 101]
  | .group _ _ => [103, 114, 111, 117, 112]
  | .add _ _ => [97, 100, 100]
  | .first _ _ => [102, 105, 114, 115, 116]
def Cd.w : Cd → S
  | .yes => [121, 101, 115]
  | .is _ _ => [105, 115]
  | .less _ _ => [108, 101, 115, 115]
  | .isn _ => [105, 115, 110, 111, 116, 104, 105, 110, 103]
  | .not _ => [110, 111, 116]
  | .both _ _ => [98, 111, 116, 104]
  | .eith _ _ => [101, 105, 116, 104, 101, 114]
  | .som _ _ => [115, 111, 109, 101]
def Ak.n : Ak → Int
  | .table _ _ => 3
  | .pick _ _ => 3
  | .shw _ _ => 3
  | .both _ _ _ _ => 4
  | .once _ => 2
  | .group _ _ => 4
  | .add _ _ => 3
  | .first _ _ => 4
def Cd.n : Cd → Int
  | .yes => 1
  | .is _ _ => 3
  | .less _ _ => 3
  | .isn _ => 2
  | .not _ => 2
  | .both _ _ => 3
  | .eith _ _ => 3
  | .som _ _ => 3
@[simp] theorem ix_A0 (a : Ak) (h : Hh) : opIdx a.e (.int 0) h = .ok (.str a.w) h := by cases a <;> (unfold Ak.e; simp [Ak.w])
@[simp] theorem ix_C0 (a : Cd) (h : Hh) : opIdx a.e (.int 0) h = .ok (.str a.w) h := by cases a <;> (unfold Cd.e; simp [Cd.w])
@[simp] theorem len_A (a : Ak) (h : Hh) : runBi .len [a.e] h = .ok (.int a.n) h := by cases a <;> (unfold Ak.e; simp [Ak.n])
@[simp] theorem len_C (a : Cd) (h : Hh) : runBi .len [a.e] h = .ok (.int a.n) h := by cases a <;> (unfold Cd.e; simp [Cd.n])
theorem eqv_A (a : Ak) : eqv a.e (.tup []) = false := by cases a <;> rfl
theorem eqv_C (a : Cd) : eqv a.e (.tup []) = false := by cases a <;> rfl
theorem eqQ_A {a : Ak} (hh : hA a ≤ 60) : eqQ a.e (.tup []) = some false := by
  rw [eqQ_of _ _ (shp60A hh) rfl, eqv_A]
theorem eqQ_C {a : Cd} (hh : hC a ≤ 60) : eqQ a.e (.tup []) = some false := by
  rw [eqQ_of _ _ (shp60C hh) rfl, eqv_C]
theorem sz_A (a : Ak) : decide (K0.s a.w ∈ D0.1) = true ∧ dget D0.1 D0.2 (.s a.w) = some (.int a.n) := by
  cases a
  case both w _ _ _ => cases w <;> exact ⟨rfl, rfl⟩
  all_goals exact ⟨rfl, rfl⟩
theorem sz_C (a : Cd) : decide (K0.s a.w ∈ D1.1) = true ∧ dget D1.1 D1.2 (.s a.w) = some (.int a.n) := by
  cases a <;> exact ⟨rfl, rfl⟩
section
variable {M : Mo} (H : Has M) {k : Nat} {h : Hh} {F : Fr}
include H
/-- columns, where of_any is told -/
theorem columns_of {a : Ak} (hk : 2 ≤ k) (hh : hA a ≤ 60) (h1 : (M.cx (k - 1)).callF 20 [F.e, a.e] h = resC (rawA F a) h) : (M.cx k).callF 21 [F.e, a.e] h = resC (colsA F a) h := by
  rw [call_of (H.df 21 f_columns (by decide) (by decide) rfl) (by omega)]
  refine RW_is (RW_run rfl ?_)
  have hn : ∀ b, (M.cx (k - 1)).callF 7 [.bl b] h = resB b h := fun b => need_ok H (by omega)
  have s1 := (sz_A a).1
  have s2 := (sz_A a).2
  have s1 := of_decide_eq_true s1
  simp [f_columns, startE, eqQ_A hh, hn, dc0 H, s1, s2, h1]
  unfold colsA
  cases rawA F a with
  | none => simp
  | some cs =>
    simp only [resC_s, RW_ok, Option.map_some]
    unfold eCs
    simp [sort_e]
theorem any_table {n al : S} (hk : 2 ≤ k) (h1 : (M.cx (k - 1)).callF 11 [F.e, (Ak.table n al).e] h = resC (rawA F (.table n al)) h) : (M.cx k).callF 20 [F.e, (Ak.table n al).e] h = resC (rawA F (.table n al)) h := by
  rw [call_of (H.df 20 f_of_any (by decide) (by decide) rfl) (by omega)]
  refine RW_is (RW_run rfl ?_)
  simp [f_of_any, startE, Ak.w, h1]
  cases rawA F (.table n al) <;> simp
theorem any_pick {a : Ak} {c : Cd} (hk : 2 ≤ k) (h1 : (M.cx (k - 1)).callF 19 [F.e, (Ak.pick a c).e] h = resC (rawA F (.pick a c)) h) : (M.cx k).callF 20 [F.e, (Ak.pick a c).e] h = resC (rawA F (.pick a c)) h := by
  rw [call_of (H.df 20 f_of_any (by decide) (by decide) rfl) (by omega)]
  refine RW_is (RW_run rfl ?_)
  simp [f_of_any, startE, Ak.w, h1]
  cases rawA F (.pick a c) <;> simp
theorem any_shw {a : Ak} {c : List (S × Sm)} (hk : 2 ≤ k) (h1 : (M.cx (k - 1)).callF 12 [F.e, (Ak.shw a c).e] h = resC (rawA F (.shw a c)) h) : (M.cx k).callF 20 [F.e, (Ak.shw a c).e] h = resC (rawA F (.shw a c)) h := by
  rw [call_of (H.df 20 f_of_any (by decide) (by decide) rfl) (by omega)]
  refine RW_is (RW_run rfl ?_)
  simp [f_of_any, startE, Ak.w, h1]
  cases rawA F (.shw a c) <;> simp
theorem any_both {w : Jn} {a b : Ak} {c : Cd} (hk : 2 ≤ k) (h1 : (M.cx (k - 1)).callF 13 [F.e, (Ak.both w a b c).e] h = resC (rawA F (.both w a b c)) h) : (M.cx k).callF 20 [F.e, (Ak.both w a b c).e] h = resC (rawA F (.both w a b c)) h := by
  rw [call_of (H.df 20 f_of_any (by decide) (by decide) rfl) (by omega)]
  refine RW_is (RW_run rfl ?_)
  cases w <;> simp [f_of_any, startE, Ak.w, Jn.s, h1]
  all_goals cases rawA F (.both _ a b c) <;> simp
theorem any_once {a : Ak} (hk : 2 ≤ k) (h1 : (M.cx (k - 1)).callF 21 [F.e, a.e] h = resC (colsA F a) h) : (M.cx k).callF 20 [F.e, (Ak.once a).e] h = resC (rawA F (.once a)) h := by
  rw [call_of (H.df 20 f_of_any (by decide) (by decide) rfl) (by omega)]
  refine RW_is (RW_run rfl ?_)
  unfold rawA
  rw [← colsA]
  simp [f_of_any, startE, Ak.e, h1]
  cases colsA F a <;> simp
theorem any_group {a : Ak} {ns : List S} (hk : 2 ≤ k) (h1 : (M.cx (k - 1)).callF 15 [F.e, (Ak.group a ns).e] h = resC (rawA F (.group a ns)) h) : (M.cx k).callF 20 [F.e, (Ak.group a ns).e] h = resC (rawA F (.group a ns)) h := by
  rw [call_of (H.df 20 f_of_any (by decide) (by decide) rfl) (by omega)]
  refine RW_is (RW_run rfl ?_)
  simp [f_of_any, startE, Ak.w, h1]
  cases rawA F (.group a ns) <;> simp
theorem any_add {a b : Ak} (hk : 2 ≤ k) (h1 : (M.cx (k - 1)).callF 16 [F.e, (Ak.add a b).e] h = resC (rawA F (.add a b)) h) : (M.cx k).callF 20 [F.e, (Ak.add a b).e] h = resC (rawA F (.add a b)) h := by
  rw [call_of (H.df 20 f_of_any (by decide) (by decide) rfl) (by omega)]
  refine RW_is (RW_run rfl ?_)
  simp [f_of_any, startE, Ak.w, h1]
  cases rawA F (.add a b) <;> simp
theorem any_first {a : Ak} {i : Int} (hk : 2 ≤ k) (h1 : (M.cx (k - 1)).callF 18 [F.e, (Ak.first a i).e] h = resC (rawA F (.first a i)) h) : (M.cx k).callF 20 [F.e, (Ak.first a i).e] h = resC (rawA F (.first a i)) h := by
  rw [call_of (H.df 20 f_of_any (by decide) (by decide) rfl) (by omega)]
  refine RW_is (RW_run rfl ?_)
  simp [f_of_any, startE, Ak.w, h1]
  cases rawA F (.first a i) <;> simp
theorem okC_not (c : Cd) (ks : Kds) : okC F (.not c) ks = okC F c ks := rfl
/-- a condition, where its parts are told -/
theorem cond_of {c : Cd} {ks : Kds} {b : Bool} (hk : 1 ≤ k) (hh : hC c ≤ 60) (q : ∀ env, env = [some (.val F.e), some (.val c.e), some (.val (eK ks)), none, none, none] → SW (exSs (M.cx (k - 1)) (match f_need_cond.body with
    | .cons _ (.cons _ r) => r
    | r => r) env h) (fun _ h' => resB b h = .ok .non h') (fun v h' => resB b h = .ok v h') (fun c h' => resB b h = .exc c h')) (hk2 : 2 ≤ k) : (M.cx k).callF 10 [F.e, c.e, eK ks] h = resB b h := by
  rw [call_of (H.df 10 f_need_cond (by decide) (by decide) rfl) (by omega)]
  refine RW_is (RW_run rfl ?_)
  have hn : ∀ b, (M.cx (k - 1)).callF 7 [.bl b] h = resB b h := fun b => need_ok H (by omega)
  have s1 := of_decide_eq_true (sz_C c).1
  have s2 := (sz_C c).2
  have q := q _ rfl
  simp only [f_need_cond] at q ⊢
  rw [exs_cons, SW_thn]
  simp only [ex_ex, startE, f_need_cond]
  simp [eqQ_C hh, hn, dc1 H, s1, s2] at q ⊢
  exact q
theorem cond_yes {ks : Kds} (hk : 2 ≤ k) : (M.cx k).callF 10 [F.e, Cd.yes.e, eK ks] h = resB (okC F .yes ks) h := by
  refine cond_of H (by omega) (by decide) (fun env e => ?_) hk
  subst e
  simp [f_need_cond, Cd.w, okC]
theorem cond_is {a b : Sm} {ks : Kds} (hk : max (hS a) (hS b) + 4 ≤ k) (hh : hC (.is a b) ≤ 60) : (M.cx k).callF 10 [F.e, (Cd.is a b).e, eK ks] h = resB (okC F (.is a b) ks) h := by
  refine cond_of H (by omega) hh (fun env e => ?_) (by omega)
  subst e
  have h1 := compared_is H (h := h) (k := k - 1) ks a b (by omega) (.str [105, 115])
  rw [← Cd.e] at h1
  unfold okC
  simp [f_need_cond, Cd.w, h1]
  rcases kindIn ks a with _ | ⟨ka, ma⟩ <;> rcases kindIn ks b with _ | ⟨kb, mb⟩ <;> simp
  cases ka == kb <;> simp
theorem cond_less {a b : Sm} {ks : Kds} (hk : max (hS a) (hS b) + 4 ≤ k) (hh : hC (.less a b) ≤ 60) : (M.cx k).callF 10 [F.e, (Cd.less a b).e, eK ks] h = resB (okC F (.less a b) ks) h := by
  refine cond_of H (by omega) hh (fun env e => ?_) (by omega)
  subst e
  have h1 := compared_is H (h := h) (k := k - 1) ks a b (by omega) (.str [108, 101, 115, 115])
  rw [← Cd.e] at h1
  unfold okC
  simp [f_need_cond, Cd.w, h1]
  rcases kindIn ks a with _ | ⟨ka, ma⟩ <;> rcases kindIn ks b with _ | ⟨kb, mb⟩ <;> simp
  cases ka == kb <;> simp
theorem cond_isn {a : Sm} {ks : Kds} (hk : hS a + 4 ≤ k) (hh : hC (.isn a) ≤ 60) : (M.cx k).callF 10 [F.e, (Cd.isn a).e, eK ks] h = resB (okC F (.isn a) ks) h := by
  refine cond_of H (by omega) hh (fun env e => ?_) (by omega)
  subst e
  have h1 := kind_in_ok H (h := h) ks a (k := k - 1) (by omega)
  have hn : ∀ b, (M.cx (k - 1)).callF 7 [.bl b] h = resB b h := fun b => need_ok H (by omega)
  have h2 : opIdx (Cd.isn a).e (.int 1) h = .ok a.e h := by unfold Cd.e; simp
  unfold okC
  simp [f_need_cond, Cd.w, h1, h2]
  cases kindIn ks a <;> simp [hn]
theorem cond_not {c : Cd} {ks : Kds} (hk : 2 ≤ k) (hh : hC (.not c) ≤ 60) (h1 : (M.cx (k - 1)).callF 10 [F.e, c.e, eK ks] h = resB (okC F c ks) h) : (M.cx k).callF 10 [F.e, (Cd.not c).e, eK ks] h = resB (okC F (.not c) ks) h := by
  refine cond_of H (by omega) hh (fun env e => ?_) (by omega)
  subst e
  have h2 : opCut (Cd.not c).e (some 1) none h = .ok (.tup [c.e]) h := cut_a1 _ _ _
  unfold okC
  simp [f_need_cond, Cd.w, h2, turns, h1]
  cases okC F c ks <;> simp
theorem cond_both {c d : Cd} {ks : Kds} (hk : 2 ≤ k) (hh : hC (.both c d) ≤ 60) (h1 : (M.cx (k - 1)).callF 10 [F.e, c.e, eK ks] h = resB (okC F c ks) h) (h3 : (M.cx (k - 1)).callF 10 [F.e, d.e, eK ks] h = resB (okC F d ks) h) : (M.cx k).callF 10 [F.e, (Cd.both c d).e, eK ks] h = resB (okC F (.both c d) ks) h := by
  refine cond_of H (by omega) hh (fun env e => ?_) (by omega)
  subst e
  have h2 : opCut (Cd.both c d).e (some 1) none h = .ok (.tup [c.e, d.e]) h := cut_a2 _ _ _ _
  unfold okC
  simp [f_need_cond, Cd.w, h2, turns, h1]
  cases okC F c ks <;> simp [h3]
  cases okC F d ks <;> simp
theorem cond_eith {c d : Cd} {ks : Kds} (hk : 2 ≤ k) (hh : hC (.eith c d) ≤ 60) (h1 : (M.cx (k - 1)).callF 10 [F.e, c.e, eK ks] h = resB (okC F c ks) h) (h3 : (M.cx (k - 1)).callF 10 [F.e, d.e, eK ks] h = resB (okC F d ks) h) : (M.cx k).callF 10 [F.e, (Cd.eith c d).e, eK ks] h = resB (okC F (.eith c d) ks) h := by
  refine cond_of H (by omega) hh (fun env e => ?_) (by omega)
  subst e
  have h2 : opCut (Cd.eith c d).e (some 1) none h = .ok (.tup [c.e, d.e]) h := cut_a2 _ _ _ _
  unfold okC
  simp [f_need_cond, Cd.w, h2, turns, h1]
  cases okC F c ks <;> simp [h3]
  cases okC F d ks <;> simp
theorem cond_som (hF : FrOk F) {a : Ak} {c : Cd} {ks : Kds} (hk : 2 ≤ k) (hh : hC (.som a c) ≤ 60) (hl : ks.length + zA a ≤ L) (hd : (ks.map (·.1)).Nodup) (h1 : (M.cx (k - 1)).callF 21 [F.e, a.e] h = resC (colsA F a) h)
    (h3 : ∀ is, colsA F a = some is → ((is ++ ks).map (·.1)).Nodup → (M.cx (k - 1)).callF 10 [F.e, c.e, eK (is ++ ks)] h = resB (okC F c (is ++ ks)) h) : (M.cx k).callF 10 [F.e, (Cd.som a c).e, eK ks] h = resB (okC F (.som a c) ks) h := by
  refine cond_of H (by omega) hh (fun env e => ?_) (by omega)
  subst e
  have h2 : opIdx (Cd.som a c).e (.int 1) h = .ok a.e h := by unfold Cd.e; simp
  have h4 : opIdx (Cd.som a c).e (.int 2) h = .ok c.e h := ix_t2 _ _ _ _ _
  have hn : ∀ b, (M.cx (k - 1)).callF 7 [.bl b] h = resB b h := fun b => need_ok H (by omega)
  unfold okC
  rw [← colsA]
  simp [f_need_cond, Cd.w, h1, h2]
  cases hc : colsA F a with
  | none => simp
  | some is =>
    have N := cols_ok hF hc
    simp [kinds_of_ok H (h := h) (k := k - 1) (cs := is) (by omega) (by omega), kindsOf_nd N.1]
    have hi : ownR true (eK is) = some (.oD (keysE is) (valsE is)) := rfl
    simp [hi]
    have e1 : (keysE is).map kEV = is.map fun p => EV.str p.1 := by simp [keysE, kEV, Function.comp_def]
    rw [e1, comps_map (f := fun p : Col => .bl (ks.lookup p.1).isNone) _ _ (by simp; omega) (fun p hp => ⟨_, rfl, by simp⟩)]
    simp only [List.nil_append, Res.bind_ok, RW_ok, RW_bind, ev_bi, all_bl, hn]
    cases hq : is.all fun p => (ks.lookup p.1).isNone with
    | false => simp
    | true =>
      have nd : ((is ++ ks).map (·.1)).Nodup := by
        rw [List.map_append]
        refine List.nodup_append.mpr ⟨N.1, hd, fun x hx y hy z => ?_⟩
        subst z
        obtain ⟨p, hp, rfl⟩ := List.mem_map.mp hx
        have := List.all_eq_true.mp hq p hp
        rw [lookup_none] at this
        exact of_decide_eq_true this hy
      have h3 := h3 is hc nd
      have m := dmerge_e ks is nd
      have l1 : (keysE is).length + (keysE ks).length ≤ L := by simp [keysE]; omega
      simp [eK_eq ks, l1, m]
      rw [← eK_eq, h4]
      simp [h3]
      cases okC F c (is ++ ks) <;> simp
mutual
theorem columns_ok (hF : FrOk F) : ∀ (a : Ak) {k : Nat} {h : Hh}, 3 * hA a + 3 ≤ k → hA a ≤ 58 → zA a ≤ L → (M.cx k).callF 21 [F.e, a.e] h = resC (colsA F a) h
  | .table n al, k, h, hk, hh, hl => by
    unfold hA at hk
    exact columns_of H (by omega) (by omega) (any_table H (by omega) (of_table_ok H hF (by omega)))
  | .pick a c, k, h, hk, hh, hl => by
    have hh' := hh
    unfold hA at hk hh'
    unfold zA at hl
    refine columns_of H (by omega) (by omega) (any_pick H (by omega) (of_pick_ok H hF (by omega) (by omega) (columns_ok hF a (by omega) (by omega) (by omega)) fun cs e => ?_))
    have N := cols_ok hF e
    exact cond_ok hF c (by omega) (by omega) N.1 (by omega)
  | .shw a ps, k, h, hk, hh, hl => by
    have hh' := hh
    unfold hA at hk hh'
    unfold zA at hl
    exact columns_of H (by omega) (by omega) (any_shw H (by omega) (of_show_ok H hF (by omega) (by omega) (by omega) (by omega) (columns_ok hF a (by omega) (by omega) (by omega))))
  | .both w a b c, k, h, hk, hh, hl => by
    have hh' := hh
    unfold hA at hk hh'
    unfold zA at hl
    exact columns_of H (by omega) (by omega) (any_both H (by omega) (of_both_ok H hF (by omega) (by omega) (columns_ok hF a (by omega) (by omega) (by omega)) (columns_ok hF b (by omega) (by omega) (by omega)) fun cs nd l =>
      cond_ok hF c (by omega) (by omega) nd (by omega)))
  | .once a, k, h, hk, hh, hl => by
    have hh' := hh
    unfold hA at hk hh'
    unfold zA at hl
    exact columns_of H (by omega) (by omega) (any_once H (by omega) (columns_ok hF a (by omega) (by omega) (by omega)))
  | .group a ns, k, h, hk, hh, hl => by
    have hh' := hh
    unfold hA at hk hh'
    unfold zA at hl
    exact columns_of H (by omega) (by omega) (any_group H (by omega) (of_group_ok H hF (by omega) (by omega) (columns_ok hF a (by omega) (by omega) (by omega))))
  | .add a b, k, h, hk, hh, hl => by
    have hh' := hh
    unfold hA at hk hh'
    unfold zA at hl
    exact columns_of H (by omega) (by omega) (any_add H (by omega) (of_add_ok H hF (by omega) (by omega) (columns_ok hF a (by omega) (by omega) (by omega)) (columns_ok hF b (by omega) (by omega) (by omega))))
  | .first a i, k, h, hk, hh, hl => by
    have hh' := hh
    unfold hA at hk hh'
    unfold zA at hl
    have := hA_pos a
    exact columns_of H (by omega) (by omega) (any_first H (by omega) (of_first_ok H hF (by omega) (by omega) (columns_ok hF a (by omega) (by omega) (by omega))))
theorem cond_ok (hF : FrOk F) : ∀ (c : Cd) {k : Nat} {h : Hh} {ks : Kds}, 3 * hC c + 3 ≤ k → hC c ≤ 58 → (ks.map (·.1)).Nodup → ks.length + zC c ≤ L → (M.cx k).callF 10 [F.e, c.e, eK ks] h = resB (okC F c ks) h
  | .yes, k, h, ks, hk, hh, hd, hl => cond_yes H (by omega)
  | .is a b, k, h, ks, hk, hh, hd, hl => by
    have hh' := hh
    unfold hC at hk hh'
    exact cond_is H (by omega) (by omega)
  | .less a b, k, h, ks, hk, hh, hd, hl => by
    have hh' := hh
    unfold hC at hk hh'
    exact cond_less H (by omega) (by omega)
  | .isn a, k, h, ks, hk, hh, hd, hl => by
    have hh' := hh
    unfold hC at hk hh'
    exact cond_isn H (by omega) (by omega)
  | .not c, k, h, ks, hk, hh, hd, hl => by
    have hh' := hh
    unfold hC at hk hh'
    unfold zC at hl
    exact cond_not H (by omega) (by omega) (cond_ok hF c (by omega) (by omega) hd (by omega))
  | .both c d, k, h, ks, hk, hh, hd, hl => by
    have hh' := hh
    unfold hC at hk hh'
    unfold zC at hl
    exact cond_both H (by omega) (by omega) (cond_ok hF c (by omega) (by omega) hd (by omega)) (cond_ok hF d (by omega) (by omega) hd (by omega))
  | .eith c d, k, h, ks, hk, hh, hd, hl => by
    have hh' := hh
    unfold hC at hk hh'
    unfold zC at hl
    exact cond_eith H (by omega) (by omega) (cond_ok hF c (by omega) (by omega) hd (by omega)) (cond_ok hF d (by omega) (by omega) hd (by omega))
  | .som a c, k, h, ks, hk, hh, hd, hl => by
    have hh' := hh
    unfold hC at hk hh'
    unfold zC at hl
    refine cond_som H hF (by omega) (by omega) (by omega) hd (columns_ok hF a (by omega) (by omega) (by omega)) fun is e nd => ?_
    have N := cols_ok hF e
    exact cond_ok hF c (by omega) (by omega) nd (by simp only [List.length_append]; omega)
end
end
end Pl
end
section
set_option autoImplicit false
set_option linter.all false
set_option maxRecDepth 100000
/-! P5: straight asks, by the program and by the law. -/
namespace Pl
open Ev K64
section
variable (a b : Ak) (c d : Cd) (m n : Sm) (h : Hh)
@[simp] theorem ix_pick1 : opIdx (Ak.pick a c).e (.int 1) h = .ok a.e h := ix_t1 _ _ _ _
@[simp] theorem ix_pick2 : opIdx (Ak.pick a c).e (.int 2) h = .ok c.e h := ix_t2 _ _ _ _ _
@[simp] theorem ix_shw1 (ps : List (S × Sm)) : opIdx (Ak.shw a ps).e (.int 1) h = .ok a.e h := ix_t1 _ _ _ _
@[simp] theorem ix_shw2 (ps : List (S × Sm)) : opIdx (Ak.shw a ps).e (.int 2) h = .ok (.tup (ps.map fun p => .tup [.str p.1, p.2.e])) h := ix_t2 _ _ _ _ _
@[simp] theorem ix_both1 (w : Jn) : opIdx (Ak.both w a b c).e (.int 1) h = .ok a.e h := ix_t1 _ _ _ _
@[simp] theorem ix_both2 (w : Jn) : opIdx (Ak.both w a b c).e (.int 2) h = .ok b.e h := ix_t2 _ _ _ _ _
@[simp] theorem ix_both3 (w : Jn) : opIdx (Ak.both w a b c).e (.int 3) h = .ok c.e h := ix_t3 _ _ _ _ _ _
@[simp] theorem ix_once1 : opIdx (Ak.once a).e (.int 1) h = .ok a.e h := ix_t1 _ _ _ _
@[simp] theorem ix_add1 : opIdx (Ak.add a b).e (.int 1) h = .ok a.e h := ix_t1 _ _ _ _
@[simp] theorem ix_add2 : opIdx (Ak.add a b).e (.int 2) h = .ok b.e h := ix_t2 _ _ _ _ _
@[simp] theorem ix_is1 : opIdx (Cd.is m n).e (.int 1) h = .ok m.e h := ix_t1 _ _ _ _
@[simp] theorem ix_is2 : opIdx (Cd.is m n).e (.int 2) h = .ok n.e h := ix_t2 _ _ _ _ _
@[simp] theorem ix_isn1 : opIdx (Cd.isn m).e (.int 1) h = .ok m.e h := ix_t1 _ _ _ _
@[simp] theorem ix_not1 : opIdx (Cd.not c).e (.int 1) h = .ok c.e h := ix_t1 _ _ _ _
@[simp] theorem ix_cboth1 : opIdx (Cd.both c d).e (.int 1) h = .ok c.e h := ix_t1 _ _ _ _
@[simp] theorem ix_cboth2 : opIdx (Cd.both c d).e (.int 2) h = .ok d.e h := ix_t2 _ _ _ _ _
@[simp] theorem ix_som1 : opIdx (Cd.som a c).e (.int 1) h = .ok a.e h := ix_t1 _ _ _ _
@[simp] theorem ix_som2 : opIdx (Cd.som a c).e (.int 2) h = .ok c.e h := ix_t2 _ _ _ _ _
@[simp] theorem cut_is : opCut (Cd.is m n).e (some 1) none h = .ok (.tup [m.e, n.e]) h := cut_a2 _ _ _ _
@[simp] theorem cut_isn : opCut (Cd.isn m).e (some 1) none h = .ok (.tup [m.e]) h := cut_a1 _ _ _
end
def Sm.w : Sm → S
  | .col _ => [99, 111, 108, 117, 109, 110]
  | .num _ => [110, 117, 109, 98, 101, 114]
  | .txt _ => [116, 101, 120, 116]
  | .non _ => [110, 111, 116, 104, 105, 110, 103]
  | .rek r _ _ => r.s
@[simp] theorem ix_S0 (m : Sm) (h : Hh) : opIdx m.e (.int 0) h = .ok (.str m.w) h := by cases m <;> exact ix_t0 _ _ _
def told : Sm → Bool
  | .rek _ _ _ => false
  | _ => true
def isIsn : Cd → Bool
  | .isn a => told a
  | _ => false
def straightJ : Jn → Bool
  | .join => true
  | .half => true
  | _ => false
mutual
def stA : Ak → Bool
  | .table _ _ => true
  | .pick a c => stA a && stC c
  | .shw a ps => stA a && ps.all fun p => told p.2
  | .both w a b c => straightJ w && (stA a && (stA b && stC c))
  | .once a => stA a
  | .group _ _ => false
  | .add a b => stA a && stA b
  | .first _ _ => false
def stC : Cd → Bool
  | .yes => true
  | .is a b => told a && told b
  | .less _ _ => false
  | .isn a => told a
  | .not c => isIsn c
  | .both c d => stC c && stC d
  | .eith _ _ => false
  | .som a c => stA a && stC c
end
def conj : Cd → List Cd
  | .yes => []
  | .both c d => conj c ++ conj d
  | c => [c]
theorem conj_st : ∀ (c : Cd), (conj c).all stC = stC c
  | .yes => rfl
  | .is a b => by simp [conj]
  | .less a b => by simp [conj]
  | .isn a => by simp [conj]
  | .not c => by simp [conj]
  | .both c d => by unfold conj stC; rw [List.all_append, conj_st c, conj_st d]
  | .eith c d => by simp [conj]
  | .som a c => by simp [conj]
theorem conj_h : ∀ (c x : Cd), x ∈ conj c → hC x ≤ hC c ∧ zC x ≤ zC c
  | .both c d, x, hx => by
    unfold conj at hx
    have e1 : hC (.both c d) = 1 + max (hC c) (hC d) := rfl
    have e2 : zC (.both c d) = zC c + zC d := rfl
    rcases List.mem_append.mp hx with q | q
    · have := conj_h c x q; omega
    · have := conj_h d x q; omega
  | .yes, x, hx => by cases hx
  | .is a b, x, hx => by simp [conj] at hx; subst hx; simp
  | .less a b, x, hx => by simp [conj] at hx; subst hx; simp
  | .isn a, x, hx => by simp [conj] at hx; subst hx; simp
  | .not c, x, hx => by simp [conj] at hx; subst hx; simp
  | .eith c d, x, hx => by simp [conj] at hx; subst hx; simp
  | .som a c, x, hx => by simp [conj] at hx; subst hx; simp
theorem conj_plain : ∀ (c x : Cd), x ∈ conj c → x ≠ .yes ∧ ∀ c d, x ≠ .both c d
  | .both c d, x, hx => by
    unfold conj at hx
    rcases List.mem_append.mp hx with q | q
    · exact conj_plain c x q
    · exact conj_plain d x q
  | .yes, x, hx => by cases hx
  | .is a b, x, hx => by simp [conj] at hx; subst hx; simp
  | .less a b, x, hx => by simp [conj] at hx; subst hx; simp
  | .isn a, x, hx => by simp [conj] at hx; subst hx; simp
  | .not c, x, hx => by simp [conj] at hx; subst hx; simp
  | .eith c d, x, hx => by simp [conj] at hx; subst hx; simp
  | .som a c, x, hx => by simp [conj] at hx; subst hx; simp
theorem conj_len : ∀ (c : Cd), (conj c).length ≤ 2 ^ hC c
  | .both c d => by
    unfold conj hC
    rw [List.length_append]
    have h1 := conj_len c
    have h2 := conj_len d
    have h3 : 2 ^ hC c ≤ 2 ^ max (hC c) (hC d) := Nat.pow_le_pow_right (by decide) (by omega)
    have h4 : 2 ^ hC d ≤ 2 ^ max (hC c) (hC d) := Nat.pow_le_pow_right (by decide) (by omega)
    rw [Nat.add_comm 1, Nat.pow_succ]
    omega
  | .yes => by simp [conj]
  | .is a b => by simp [conj]; exact Nat.one_le_two_pow
  | .less a b => by simp [conj]; exact Nat.one_le_two_pow
  | .isn a => by simp [conj]; exact Nat.one_le_two_pow
  | .not c => by simp [conj]; exact Nat.one_le_two_pow
  | .eith c d => by simp [conj]; exact Nat.one_le_two_pow
  | .som a c => by simp [conj]; exact Nat.one_le_two_pow
section
variable {M : Mo} (H : Has M) {k : Nat} {h : Hh} {F : Fr}
include H
theorem gl5 : ∀ k, (M.cx k).glob 5 = globs.getD 5 .non := fun k => by rw [cx_gl, H.gl 5 (by decide)]
theorem gl6 : ∀ k, (M.cx k).glob 6 = globs.getD 6 .non := fun k => by rw [cx_gl, H.gl 6 (by decide)]
theorem told_ok (m : Sm) (hk : 1 ≤ k) : (M.cx k).callF 23 [m.e] h = .ok (.bl (told m)) h := by
  rw [call_of (H.df 23 f_is_told (by decide) (by decide) rfl) (by omega)]
  refine RW_eq (RW_run rfl ?_)
  have e : inR (.str m.w) (globs.getD 6 .non) = some (told m) := by
    cases m with
    | rek r a b => cases r <;> rfl
    | _ => rfl
  simp only [f_is_told, startE, exs_cons, SW_thn, ex_ret, SW_s, ev_cmp, ev_idx, ev_glob, gl6 H, RW_bind, ev_var, ev_int, List.map_cons, List.map_nil, List.append_nil, List.nil_append, List.cons_append]
  simp only [valAt_val]
  simp [e] at e ⊢
  simp [e]
theorem isum_ok (m : Sm) (hk : 1 ≤ k) : (M.cx k).callF 42 [m.e] h = .ok (.bl (told m)) h := by
  rw [call_of (H.df 42 f_law_is_sum (by decide) (by decide) rfl) (by omega)]
  refine RW_eq (RW_run rfl ?_)
  cases m with
  | rek r a b => cases r <;> simp [f_law_is_sum, startE, told, Sm.w, Rc.s]
  | _ => simp [f_law_is_sum, startE, told, Sm.w]
theorem conjuncts_ok : ∀ (c : Cd) {k : Nat}, hC c + 1 ≤ k → hC c ≤ 20 → (M.cx k).callF 22 [c.e] h = .ok (.lst ((conj c).map Cd.e)) h
  | .both c d, k, hk, hl => by
    have hl' := hl
    unfold hC at hk hl'
    rw [call_of (H.df 22 f_conjuncts (by decide) (by decide) rfl) (by omega)]
    refine RW_eq (RW_run rfl ?_)
    have h1 := conjuncts_ok c (k := k - 1) (by omega) (by omega)
    have h2 := conjuncts_ok d (k := k - 1) (by omega) (by omega)
    have l : (conj c).length + (conj d).length ≤ L := by
      have := conj_len (.both c d)
      unfold conj at this
      rw [List.length_append] at this
      have h3 : 2 ^ hC (.both c d) ≤ 2 ^ 20 := Nat.pow_le_pow_right (by decide) hl
      have : L = 16777216 := rfl
      omega
    simp [f_conjuncts, startE, Cd.w, h1, h2, l, conj]
  | .yes, k, hk, hl => by
    rw [call_of (H.df 22 f_conjuncts (by decide) (by decide) rfl) (by omega)]
    refine RW_eq (RW_run rfl ?_)
    simp [f_conjuncts, startE, Cd.w, conj]
  | .is a b, k, hk, hl => by
    rw [call_of (H.df 22 f_conjuncts (by decide) (by decide) rfl) (by omega)]
    refine RW_eq (RW_run rfl ?_)
    simp [f_conjuncts, startE, Cd.w, conj]
  | .less a b, k, hk, hl => by
    rw [call_of (H.df 22 f_conjuncts (by decide) (by decide) rfl) (by omega)]
    refine RW_eq (RW_run rfl ?_)
    simp [f_conjuncts, startE, Cd.w, conj]
  | .isn a, k, hk, hl => by
    rw [call_of (H.df 22 f_conjuncts (by decide) (by decide) rfl) (by omega)]
    refine RW_eq (RW_run rfl ?_)
    simp [f_conjuncts, startE, Cd.w, conj]
  | .not a, k, hk, hl => by
    rw [call_of (H.df 22 f_conjuncts (by decide) (by decide) rfl) (by omega)]
    refine RW_eq (RW_run rfl ?_)
    simp [f_conjuncts, startE, Cd.w, conj]
  | .eith a b, k, hk, hl => by
    rw [call_of (H.df 22 f_conjuncts (by decide) (by decide) rfl) (by omega)]
    refine RW_eq (RW_run rfl ?_)
    simp [f_conjuncts, startE, Cd.w, conj]
  | .som a b, k, hk, hl => by
    rw [call_of (H.df 22 f_conjuncts (by decide) (by decide) rfl) (by omega)]
    refine RW_eq (RW_run rfl ?_)
    simp [f_conjuncts, startE, Cd.w, conj]
theorem part_isum {m : Sm} (hk : 2 ≤ k) : (M.cx k).callF 24 [(Cd.isn m).e] h = .ok (.bl (stC (.isn m))) h := by
  rw [call_of (H.df 24 f_is_straight_part (by decide) (by decide) rfl) (by omega)]
  refine RW_eq (RW_run rfl ?_)
  simp [f_is_straight_part, startE, Cd.w, told_ok H m (h := h) (k := k - 1) (by omega)]
  rfl
theorem part_is {m n : Sm} (hk : 2 ≤ k) : (M.cx k).callF 24 [(Cd.is m n).e] h = .ok (.bl (stC (.is m n))) h := by
  rw [call_of (H.df 24 f_is_straight_part (by decide) (by decide) rfl) (by omega)]
  refine RW_eq (RW_run rfl ?_)
  have e : stC (.is m n) = (told m && told n) := rfl
  simp [f_is_straight_part, startE, Cd.w, told_ok H m (h := h) (k := k - 1) (by omega), told_ok H n (h := h) (k := k - 1) (by omega), e]
  cases told m <;> simp
theorem part_less {m n : Sm} (hk : 2 ≤ k) : (M.cx k).callF 24 [(Cd.less m n).e] h = .ok (.bl (stC (.less m n))) h := by
  rw [call_of (H.df 24 f_is_straight_part (by decide) (by decide) rfl) (by omega)]
  refine RW_eq (RW_run rfl ?_)
  have e : stC (.less m n) = false := rfl
  simp [f_is_straight_part, startE, Cd.w, e]
theorem part_eith {m n : Cd} (hk : 2 ≤ k) : (M.cx k).callF 24 [(Cd.eith m n).e] h = .ok (.bl (stC (.eith m n))) h := by
  rw [call_of (H.df 24 f_is_straight_part (by decide) (by decide) rfl) (by omega)]
  refine RW_eq (RW_run rfl ?_)
  have e : stC (.eith m n) = false := rfl
  simp [f_is_straight_part, startE, Cd.w, e]
theorem part_not {c : Cd} (hk : 2 ≤ k) : (M.cx k).callF 24 [(Cd.not c).e] h = .ok (.bl (stC (.not c))) h := by
  rw [call_of (H.df 24 f_is_straight_part (by decide) (by decide) rfl) (by omega)]
  refine RW_eq (RW_run rfl ?_)
  have e : stC (.not c) = isIsn c := rfl
  cases c with
  | isn m => simp [f_is_straight_part, startE, Cd.w, e, isIsn, told_ok H m (h := h) (k := k - 1) (by omega)]
  | _ => simp [f_is_straight_part, startE, Cd.w, e, isIsn]
theorem part_som {a : Ak} {c : Cd} (hk : 2 ≤ k) (h1 : (M.cx (k - 1)).callF 26 [a.e] h = .ok (.bl (stA a)) h) (h2 : (M.cx (k - 1)).callF 25 [c.e] h = .ok (.bl (stC c)) h) : (M.cx k).callF 24 [(Cd.som a c).e] h = .ok (.bl (stC (.som a c))) h := by
  rw [call_of (H.df 24 f_is_straight_part (by decide) (by decide) rfl) (by omega)]
  refine RW_eq (RW_run rfl ?_)
  have e : stC (.som a c) = (stA a && stC c) := rfl
  simp [f_is_straight_part, startE, Cd.w, e, h1, h2]
  cases stA a <;> simp
theorem scond_of {c : Cd} (hk : hC c + 2 ≤ k) (hl : hC c ≤ 20) (h1 : ∀ x ∈ conj c, (M.cx (k - 1)).callF 24 [x.e] h = .ok (.bl (stC x)) h) : (M.cx k).callF 25 [c.e] h = .ok (.bl (stC c)) h := by
  rw [call_of (H.df 25 f_is_straight_cond (by decide) (by decide) rfl) (by omega)]
  refine RW_eq (RW_run rfl ?_)
  have h2 := conjuncts_ok H (h := h) c (k := k - 1) (by omega) hl
  have l : (conj c).length ≤ L := by
    have := conj_len c
    have h3 : 2 ^ hC c ≤ 2 ^ 20 := Nat.pow_le_pow_right (by decide) hl
    have : L = 16777216 := rfl
    omega
  simp [f_is_straight_cond, startE, h2]
  rw [comps_map (f := fun x : Cd => .bl (stC x)) _ _ (by simpa using l) (fun x hx => ⟨_, rfl, by simp [h1 x hx]⟩)]
  simp [conj_st]
end
def W5 : EV := globs.getD 5 .non
theorem inW (a : Ak) : inR (.str a.w) W5 = some (match a with
    | .group _ _ => false
    | .first _ _ => false
    | .both w _ _ _ => straightJ w
    | _ => true) := by
  cases a with
  | both w a b c => cases w <;> rfl
  | _ => rfl
section
variable {M : Mo} (H : Has M) {k : Nat} {h : Hh} {F : Fr}
include H
theorem gW5 : ∀ k, (M.cx k).glob 5 = W5 := fun k => by rw [gl5 H]; rfl
theorem form_table {n al : S} (hk : 1 ≤ k) : (M.cx k).callF 26 [(Ak.table n al).e] h = .ok (.bl (stA (.table n al))) h := by
  rw [call_of (H.df 26 f_is_straight_form (by decide) (by decide) rfl) (by omega)]
  refine RW_eq (RW_run rfl ?_)
  simp [f_is_straight_form, startE, gW5 H, inW]
  simp [Ak.w]; rfl
theorem form_pick {a : Ak} {c : Cd} (hk : 1 ≤ k) (h1 : (M.cx (k - 1)).callF 26 [a.e] h = .ok (.bl (stA a)) h) (h2 : (M.cx (k - 1)).callF 25 [c.e] h = .ok (.bl (stC c)) h) : (M.cx k).callF 26 [(Ak.pick a c).e] h = .ok (.bl (stA (.pick a c))) h := by
  rw [call_of (H.df 26 f_is_straight_form (by decide) (by decide) rfl) (by omega)]
  refine RW_eq (RW_run rfl ?_)
  have e : stA (.pick a c) = (stA a && stC c) := rfl
  simp [f_is_straight_form, startE, gW5 H, inW, h1, h2, e]
  simp [Ak.w, h1, h2]
  cases stC c <;> simp [h1]
theorem form_shw {a : Ak} {ps : List (S × Sm)} (hk : 2 ≤ k) (hl : ps.length ≤ L) (h1 : (M.cx (k - 1)).callF 26 [a.e] h = .ok (.bl (stA a)) h) : (M.cx k).callF 26 [(Ak.shw a ps).e] h = .ok (.bl (stA (.shw a ps))) h := by
  rw [call_of (H.df 26 f_is_straight_form (by decide) (by decide) rfl) (by omega)]
  refine RW_eq (RW_run rfl ?_)
  have e : stA (.shw a ps) = (stA a && ps.all fun p => told p.2) := rfl
  simp [f_is_straight_form, startE, gW5 H, inW, h1, e]
  simp [Ak.w, h1]
  rw [comps_map (f := fun p : S × Sm => .bl (told p.2)) _ _ (by simpa using hl) (fun x hx => ⟨_, rfl, by simp [told_ok H x.2 (h := h) (k := k - 1) (by omega)]⟩)]
  simp
  cases ps.all fun p => told p.2 <;> simp [h1]
theorem form_once {a : Ak} (hk : 1 ≤ k) (h1 : (M.cx (k - 1)).callF 26 [a.e] h = .ok (.bl (stA a)) h) : (M.cx k).callF 26 [(Ak.once a).e] h = .ok (.bl (stA (.once a))) h := by
  rw [call_of (H.df 26 f_is_straight_form (by decide) (by decide) rfl) (by omega)]
  refine RW_eq (RW_run rfl ?_)
  have e : stA (.once a) = stA a := rfl
  simp [f_is_straight_form, startE, gW5 H, inW, h1, e]
  simp [Ak.w, h1]
theorem form_group {a : Ak} {ns : List S} (hk : 1 ≤ k) : (M.cx k).callF 26 [(Ak.group a ns).e] h = .ok (.bl (stA (.group a ns))) h := by
  rw [call_of (H.df 26 f_is_straight_form (by decide) (by decide) rfl) (by omega)]
  refine RW_eq (RW_run rfl ?_)
  simp [f_is_straight_form, startE, gW5 H, inW]; rfl
theorem form_first {a : Ak} {i : Int} (hk : 1 ≤ k) : (M.cx k).callF 26 [(Ak.first a i).e] h = .ok (.bl (stA (.first a i))) h := by
  rw [call_of (H.df 26 f_is_straight_form (by decide) (by decide) rfl) (by omega)]
  refine RW_eq (RW_run rfl ?_)
  simp [f_is_straight_form, startE, gW5 H, inW]; rfl
theorem form_add {a b : Ak} (hk : 1 ≤ k) (h1 : (M.cx (k - 1)).callF 26 [a.e] h = .ok (.bl (stA a)) h) (h2 : (M.cx (k - 1)).callF 26 [b.e] h = .ok (.bl (stA b)) h) : (M.cx k).callF 26 [(Ak.add a b).e] h = .ok (.bl (stA (.add a b))) h := by
  rw [call_of (H.df 26 f_is_straight_form (by decide) (by decide) rfl) (by omega)]
  refine RW_eq (RW_run rfl ?_)
  have e : stA (.add a b) = (stA a && stA b) := rfl
  simp [f_is_straight_form, startE, gW5 H, inW, h1, h2, e]
  simp [Ak.w, h1]
  cases ha : stA a <;> cases hb : stA b <;> simp [h2, ha, hb]
theorem form_both {w : Jn} {a b : Ak} {c : Cd} (hk : 1 ≤ k) (h1 : (M.cx (k - 1)).callF 26 [a.e] h = .ok (.bl (stA a)) h) (h2 : (M.cx (k - 1)).callF 26 [b.e] h = .ok (.bl (stA b)) h) (h3 : (M.cx (k - 1)).callF 25 [c.e] h = .ok (.bl (stC c)) h) : (M.cx k).callF 26 [(Ak.both w a b c).e] h = .ok (.bl (stA (.both w a b c))) h := by
  rw [call_of (H.df 26 f_is_straight_form (by decide) (by decide) rfl) (by omega)]
  refine RW_eq (RW_run rfl ?_)
  have e : stA (.both w a b c) = (straightJ w && (stA a && (stA b && stC c))) := rfl
  cases w <;> simp [f_is_straight_form, startE, gW5 H, inW, h1, h2, h3, e, straightJ]
  all_goals
    simp [Ak.w, Jn.s, h1]
    cases ha : stA a <;> cases hb : stA b <;> simp [h2, h3, ha, hb]
/-- is_straight_form and is_straight_cond -/
theorem forms_ok : ∀ (n : Nat), (∀ (a : Ak) {k : Nat}, hA a ≤ n → n ≤ 20 → zA a ≤ L → 3 * n + 3 ≤ k → (M.cx k).callF 26 [a.e] h = .ok (.bl (stA a)) h) ∧ (∀ (c : Cd) {k : Nat}, hC c ≤ n → n ≤ 20 → zC c ≤ L → 3 * n + 3 ≤ k → (M.cx k).callF 25 [c.e] h = .ok (.bl (stC c)) h)
  | 0 => ⟨fun a k q => by have := hA_pos a; omega, fun c k q => by have := hC_pos c; omega⟩
  | n + 1 => by
    obtain ⟨ihA, ihC⟩ := forms_ok n
    have main : ∀ (c : Cd) {k : Nat}, hC c ≤ n + 1 → n + 1 ≤ 20 → zC c ≤ L → 3 * n + 5 ≤ k → (M.cx k).callF 25 [c.e] h = .ok (.bl (stC c)) h := by
      intro c k h1 h2 h3 h4
      refine scond_of H (by omega) (by omega) fun x hx => ?_
      obtain ⟨q1, q2⟩ := conj_h c x hx
      obtain ⟨q3, q4⟩ := conj_plain c x hx
      cases x with
      | yes => exact (q3 rfl).elim
      | both c d => exact (q4 _ _ rfl).elim
      | is a b => exact part_is H (by omega)
      | less a b => exact part_less H (by omega)
      | isn a => exact part_isum H (by omega)
      | not a => exact part_not H (by omega)
      | eith a b => exact part_eith H (by omega)
      | som a c =>
        have e1 : hC (.som a c) = 1 + max (hA a) (hC c) := rfl
        have e2 : zC (.som a c) = zA a + zC c := rfl
        exact part_som H (by omega) (ihA a (by omega) (by omega) (by omega) (by omega)) (ihC c (by omega) (by omega) (by omega) (by omega))
    refine ⟨fun a k h1 h2 h3 h4 => ?_, fun c k h1 h2 h3 h4 => main c h1 h2 h3 (by omega)⟩
    cases a with
    | table n al => exact form_table H (by omega)
    | pick a c =>
      unfold hA at h1
      unfold zA at h3
      exact form_pick H (by omega) (ihA a (by omega) (by omega) (by omega) (by omega)) (main c (by omega) (by omega) (by omega) (by omega))
    | shw a ps =>
      unfold hA at h1
      unfold zA at h3
      have := zPs_len ps
      exact form_shw H (by omega) (by omega) (ihA a (by omega) (by omega) (by omega) (by omega))
    | once a =>
      unfold hA at h1
      unfold zA at h3
      exact form_once H (by omega) (ihA a (by omega) (by omega) (by omega) (by omega))
    | group a ns => exact form_group H (by omega)
    | first a i => exact form_first H (by omega)
    | add a b =>
      unfold hA at h1
      unfold zA at h3
      exact form_add H (by omega) (ihA a (by omega) (by omega) (by omega) (by omega)) (ihA b (by omega) (by omega) (by omega) (by omega))
    | both w a b c =>
      unfold hA at h1
      unfold zA at h3
      exact form_both H (by omega) (ihA a (by omega) (by omega) (by omega) (by omega)) (ihA b (by omega) (by omega) (by omega) (by omega)) (main c (by omega) (by omega) (by omega) (by omega))
/-- is_straight of what is an ask -/
theorem straight_ok (hF : FrOk F) {a : Ak} {cs : Cols} (hc : colsA F a = some cs) (hh : hA a ≤ 20) (hl : zA a ≤ L) (hk : 3 * hA a + 7 ≤ k) : (M.cx k).callF 27 [F.e, a.e] h = .ok (.bl (stA a)) h := by
  rw [call_of (H.df 27 f_is_straight (by decide) (by decide) rfl) (by omega)]
  refine RW_eq (RW_run rfl ?_)
  have h1 := columns_ok H hF a (h := h) (k := k - 1) (by omega) (by omega) hl
  have h2 := (forms_ok H (h := h) (hA a)).1 a (k := k - 1) (by omega) hh hl (by omega)
  simp [f_is_straight, startE, h1, hc, h2]
theorem straight_no (hF : FrOk F) {a : Ak} (hc : colsA F a = none) (hh : hA a ≤ 20) (hl : zA a ≤ L) (hk : 3 * hA a + 7 ≤ k) : (M.cx k).callF 27 [F.e, a.e] h = .exc 0 h := by
  rw [call_of (H.df 27 f_is_straight (by decide) (by decide) rfl) (by omega)]
  refine RW_is (RW_run rfl ?_)
  have h1 := columns_ok H hF a (h := h) (k := k - 1) (by omega) (by omega) hl
  simp [f_is_straight, startE, h1, hc]
end
theorem filter_none {α : Type} (l : List α) (p : α → Bool) : eqvs (List.map (fun _ => EV.non) (l.filter fun x => !p x)) [] = l.all p := by
  induction l with
  | nil => rfl
  | cons x l ih =>
    rw [List.filter_cons, List.all_cons]
    cases p x <;> simp [ih]
theorem filt_emp {α : Type} (f : α → EV) (l : List α) : eqvs (l.map f) [] = l.isEmpty := by cases l <;> rfl
theorem filt_all {α : Type} (l : List α) (p : α → Bool) : (l.filter fun x => !p x).isEmpty = l.all p := by
  induction l with
  | nil => rfl
  | cons x l ih =>
    rw [List.filter_cons, List.all_cons]
    cases p x <;> simp [ih]
section
variable {M : Mo} (H : Has M) {k : Nat} {h : Hh} {F : Fr}
include H
theorem lcond_is {m n : Sm} (hh : hC (.is m n) ≤ 50) (hk : 2 ≤ k) : (M.cx k).callF 43 [(Cd.is m n).e] h = .ok (.bl (stC (.is m n))) h := by
  rw [call_of (H.df 43 f_law_is_cond (by decide) (by decide) rfl) (by omega)]
  refine RW_eq (RW_run rfl ?_)
  unfold hC at hh
  have e : stC (.is m n) = (told m && told n) := rfl
  have q1 : shp 59 m.e = true := shp_mono _ (by omega) (shpS m)
  have q2 : shp 59 n.e = true := shp_mono _ (by omega) (shpS n)
  simp [f_law_is_cond, startE, Cd.w, isum_ok H m (h := h) (k := k - 1) (by omega), isum_ok H n (h := h) (k := k - 1) (by omega), e, comps]
  cases hm : told m <;> cases hn : told n <;> simp [q1, q2, isum_ok H n (h := h) (k := k - 1) (by omega), hn]
theorem lcond_isn {m : Sm} (hh : hC (.isn m) ≤ 50) (hk : 2 ≤ k) : (M.cx k).callF 43 [(Cd.isn m).e] h = .ok (.bl (stC (.isn m))) h := by
  rw [call_of (H.df 43 f_law_is_cond (by decide) (by decide) rfl) (by omega)]
  refine RW_eq (RW_run rfl ?_)
  unfold hC at hh
  have e : stC (.isn m) = told m := rfl
  have q1 : shp 59 m.e = true := shp_mono _ (by omega) (shpS m)
  simp [f_law_is_cond, startE, Cd.w, isum_ok H m (h := h) (k := k - 1) (by omega), e, comps]
  cases told m <;> simp [q1]
theorem lcond_yes (hk : 2 ≤ k) : (M.cx k).callF 43 [Cd.yes.e] h = .ok (.bl (stC .yes)) h := by
  rw [call_of (H.df 43 f_law_is_cond (by decide) (by decide) rfl) (by omega)]
  refine RW_eq (RW_run rfl ?_)
  simp [f_law_is_cond, startE, Cd.w]; rfl
theorem lcond_less {m n : Sm} (hk : 2 ≤ k) : (M.cx k).callF 43 [(Cd.less m n).e] h = .ok (.bl (stC (.less m n))) h := by
  rw [call_of (H.df 43 f_law_is_cond (by decide) (by decide) rfl) (by omega)]
  refine RW_eq (RW_run rfl ?_)
  simp [f_law_is_cond, startE, Cd.w]; rfl
theorem lcond_eith {m n : Cd} (hk : 2 ≤ k) : (M.cx k).callF 43 [(Cd.eith m n).e] h = .ok (.bl (stC (.eith m n))) h := by
  rw [call_of (H.df 43 f_law_is_cond (by decide) (by decide) rfl) (by omega)]
  refine RW_eq (RW_run rfl ?_)
  simp [f_law_is_cond, startE, Cd.w]; rfl
theorem lcond_not {c : Cd} (hk : 2 ≤ k) : (M.cx k).callF 43 [(Cd.not c).e] h = .ok (.bl (stC (.not c))) h := by
  rw [call_of (H.df 43 f_law_is_cond (by decide) (by decide) rfl) (by omega)]
  refine RW_eq (RW_run rfl ?_)
  have e : stC (.not c) = isIsn c := rfl
  cases c with
  | isn m => simp [f_law_is_cond, startE, Cd.w, e, isIsn, isum_ok H m (h := h) (k := k - 1) (by omega)]
  | _ => simp [f_law_is_cond, startE, Cd.w, e, isIsn]
theorem lcond_both {c d : Cd} (hk : 2 ≤ k) (h1 : (M.cx (k - 1)).callF 43 [c.e] h = .ok (.bl (stC c)) h) (h2 : (M.cx (k - 1)).callF 43 [d.e] h = .ok (.bl (stC d)) h) : (M.cx k).callF 43 [(Cd.both c d).e] h = .ok (.bl (stC (.both c d))) h := by
  rw [call_of (H.df 43 f_law_is_cond (by decide) (by decide) rfl) (by omega)]
  refine RW_eq (RW_run rfl ?_)
  have e : stC (.both c d) = (stC c && stC d) := rfl
  simp [f_law_is_cond, startE, Cd.w, e, h1, h2]
  cases stC c <;> simp [h2]
theorem lcond_som {c : Ak} {d : Cd} (hk : 2 ≤ k) (h1 : (M.cx (k - 1)).callF 44 [c.e] h = .ok (.bl (stA c)) h) (h2 : (M.cx (k - 1)).callF 43 [d.e] h = .ok (.bl (stC d)) h) : (M.cx k).callF 43 [(Cd.som c d).e] h = .ok (.bl (stC (.som c d))) h := by
  rw [call_of (H.df 43 f_law_is_cond (by decide) (by decide) rfl) (by omega)]
  refine RW_eq (RW_run rfl ?_)
  have e : stC (.som c d) = (stA c && stC d) := rfl
  simp [f_law_is_cond, startE, Cd.w, e, h1, h2]
  cases stA c <;> simp [h2]
theorem lask_shw {a : Ak} {ps : List (S × Sm)} (hk : 2 ≤ k) (hl : ps.length ≤ L) (hs : hPs ps ≤ 50) (h1 : (M.cx (k - 1)).callF 44 [a.e] h = .ok (.bl (stA a)) h) : (M.cx k).callF 44 [(Ak.shw a ps).e] h = .ok (.bl (stA (.shw a ps))) h := by
  rw [call_of (H.df 44 f_law_is_ask (by decide) (by decide) rfl) (by omega)]
  refine RW_eq (RW_run rfl ?_)
  have e : stA (.shw a ps) = (stA a && ps.all fun p => told p.2) := rfl
  simp [f_law_is_ask, startE, Ak.w, h1, e]
  cases stA a
  · simp
  · simp
    rw [comps_pure (p := fun p : S × Sm => !told p.2) (f := fun p : S × Sm => p.2.e) _ _ (by simpa using hl) (fun x hx => ⟨_, rfl, by simp [isum_ok H x.2 (h := h) (k := k - 1) (by omega)], by simp⟩)]
    have q : shps 59 ((ps.filter fun p => !told p.2).map fun p => p.2.e) = true := shps_all fun x hx => by
      obtain ⟨p, hp, rfl⟩ := List.mem_map.mp hx
      have := hPs_le (List.mem_filter.mp hp).1
      exact shp_mono _ (by omega) (shpS p.2)
    simp [q, filt_emp, filt_all]
/-- the law's own look -/
theorem looks_ok : ∀ (n : Nat), (∀ (a : Ak) {k : Nat}, hA a ≤ n → n ≤ 50 → zA a ≤ L → n + 3 ≤ k → (M.cx k).callF 44 [a.e] h = .ok (.bl (stA a)) h) ∧ (∀ (c : Cd) {k : Nat}, hC c ≤ n → n ≤ 50 → zC c ≤ L → n + 3 ≤ k → (M.cx k).callF 43 [c.e] h = .ok (.bl (stC c)) h)
  | 0 => ⟨fun a k q => by have := hA_pos a; omega, fun c k q => by have := hC_pos c; omega⟩
  | n + 1 => by
    obtain ⟨ihA, ihC⟩ := looks_ok n
    refine ⟨fun a k h1 h2 h3 h4 => ?_, fun c k h1 h2 h3 h4 => ?_⟩
    · cases a with
      | table al nm =>
        rw [call_of (H.df 44 f_law_is_ask (by decide) (by decide) rfl) (by omega)]
        refine RW_eq (RW_run rfl ?_)
        simp [f_law_is_ask, startE, Ak.w]; rfl
      | pick a c =>
        unfold hA at h1
        unfold zA at h3
        have q1 := ihA a (k := k - 1) (by omega) (by omega) (by omega) (by omega)
        have q2 := ihC c (k := k - 1) (by omega) (by omega) (by omega) (by omega)
        rw [call_of (H.df 44 f_law_is_ask (by decide) (by decide) rfl) (by omega)]
        refine RW_eq (RW_run rfl ?_)
        have e : stA (.pick a c) = (stA a && stC c) := rfl
        simp [f_law_is_ask, startE, Ak.w, e, q1]
        cases ha : stA a <;> simp [q2]
      | shw a ps =>
        unfold hA at h1
        unfold zA at h3
        have := zPs_len ps
        exact lask_shw H (by omega) (by omega) (by omega) (ihA a (by omega) (by omega) (by omega) (by omega))
      | once a =>
        unfold hA at h1
        unfold zA at h3
        have q1 := ihA a (k := k - 1) (by omega) (by omega) (by omega) (by omega)
        rw [call_of (H.df 44 f_law_is_ask (by decide) (by decide) rfl) (by omega)]
        refine RW_eq (RW_run rfl ?_)
        have e : stA (.once a) = stA a := rfl
        simp [f_law_is_ask, startE, Ak.w, e, q1]
      | group a ns =>
        rw [call_of (H.df 44 f_law_is_ask (by decide) (by decide) rfl) (by omega)]
        refine RW_eq (RW_run rfl ?_)
        have e : stA (.group a ns) = false := rfl
        simp [f_law_is_ask, startE, Ak.w, e]
      | first a ns =>
        rw [call_of (H.df 44 f_law_is_ask (by decide) (by decide) rfl) (by omega)]
        refine RW_eq (RW_run rfl ?_)
        have e : stA (.first a ns) = false := rfl
        simp [f_law_is_ask, startE, Ak.w, e]
      | add a b =>
        unfold hA at h1
        unfold zA at h3
        have q1 := ihA a (k := k - 1) (by omega) (by omega) (by omega) (by omega)
        have q2 := ihA b (k := k - 1) (by omega) (by omega) (by omega) (by omega)
        rw [call_of (H.df 44 f_law_is_ask (by decide) (by decide) rfl) (by omega)]
        refine RW_eq (RW_run rfl ?_)
        have e : stA (.add a b) = (stA a && stA b) := rfl
        simp [f_law_is_ask, startE, Ak.w, e, q1]
        cases ha : stA a <;> simp [q2]
      | both w a b c =>
        unfold hA at h1
        unfold zA at h3
        have q1 := ihA a (k := k - 1) (by omega) (by omega) (by omega) (by omega)
        have q2 := ihA b (k := k - 1) (by omega) (by omega) (by omega) (by omega)
        have q3 := ihC c (k := k - 1) (by omega) (by omega) (by omega) (by omega)
        rw [call_of (H.df 44 f_law_is_ask (by decide) (by decide) rfl) (by omega)]
        refine RW_eq (RW_run rfl ?_)
        have e : stA (.both w a b c) = (straightJ w && (stA a && (stA b && stC c))) := rfl
        cases w <;> simp [f_law_is_ask, startE, Ak.w, Jn.s, e, straightJ, q1]
        all_goals cases ha : stA a <;> cases hb : stA b <;> simp [q2, q3, hb]
    · cases c with
      | yes => exact lcond_yes H (by omega)
      | is a b => exact lcond_is H (by omega) (by omega)
      | less a b => exact lcond_less H (by omega)
      | isn a => exact lcond_isn H (by omega) (by omega)
      | not c => exact lcond_not H (by omega)
      | eith c d => exact lcond_eith H (by omega)
      | both c d =>
        unfold hC at h1
        unfold zC at h3
        exact lcond_both H (by omega) (ihC c (by omega) (by omega) (by omega) (by omega)) (ihC d (by omega) (by omega) (by omega) (by omega))
      | som c d =>
        unfold hC at h1
        unfold zC at h3
        exact lcond_som H (by omega) (ihA c (by omega) (by omega) (by omega) (by omega)) (ihC d (by omega) (by omega) (by omega) (by omega))
end
end Pl
end
section
set_option autoImplicit false
set_option linter.all false
set_option maxRecDepth 100000
/-! P6: the well and its draws. -/
namespace Pl
open Ev K64
structure Wl where
  cells : List Int
  t : Nat
  l : Int
  a : Nat
  b : Nat
  c : Nat
def Wl.e (w : Wl) : List EV := [.lst (w.cells.map .int), .int w.t, .int w.l, .int w.a, .int w.b, .int w.c]
def hp (w : Wl) (hs : Hh) : Hh := w.e :: hs
/-- so many draws, so many table parts more -/
structure Stp (n m : Nat) (w w' : Wl) : Prop where
  lo : w.t ≤ w'.t
  hi : w'.t ≤ w.t + n
  a : w'.a = w.a
  cl : w.c ≤ w'.c
  ch : w'.c ≤ w.c + m
theorem Stp.refl (w : Wl) : Stp 0 0 w w := ⟨Nat.le_refl _, Nat.le_refl _, rfl, Nat.le_refl _, Nat.le_refl _⟩
theorem Stp.trans {n m n' m' : Nat} {w w1 w2 : Wl} (p : Stp n m w w1) (q : Stp n' m' w1 w2) : Stp (n + n') (m + m') w w2 :=
  ⟨Nat.le_trans p.lo q.lo, by have := p.hi; have := q.hi; omega, q.a.trans p.a, Nat.le_trans p.cl q.cl, by have := p.ch; have := q.ch; omega⟩
theorem Stp.le {n m n' m' : Nat} {w w1 : Wl} (p : Stp n m w w1) (h : n ≤ n') (h' : m ≤ m') : Stp n' m' w w1 := ⟨p.lo, by have := p.hi; omega, p.a, p.cl, by have := p.ch; omega⟩
def TT : Nat := 1000000
section
variable (w : Wl) (hs : Hh) (x : EV)
@[simp] theorem ix_w0 : opIdx (.ref 0) (.int 0) (hp w hs) = .ok (.lst (w.cells.map .int)) (hp w hs) := (rfl)
@[simp] theorem ix_w1 : opIdx (.ref 0) (.int 1) (hp w hs) = .ok (.int w.t) (hp w hs) := (rfl)
@[simp] theorem ix_w2 : opIdx (.ref 0) (.int 2) (hp w hs) = .ok (.int w.l) (hp w hs) := (rfl)
@[simp] theorem ix_w3 : opIdx (.ref 0) (.int 3) (hp w hs) = .ok (.int w.a) (hp w hs) := (rfl)
@[simp] theorem ix_w4 : opIdx (.ref 0) (.int 4) (hp w hs) = .ok (.int w.b) (hp w hs) := (rfl)
@[simp] theorem ix_w5 : opIdx (.ref 0) (.int 5) (hp w hs) = .ok (.int w.c) (hp w hs) := (rfl)
@[simp] theorem st_w1 (i : Nat) : setAt (.ref 0) (.int 1) (.int (i + 1)) (hp w hs) = some (hp { w with t := i + 1 } hs) := (rfl)
@[simp] theorem st_w2 (i : Int) : setAt (.ref 0) (.int 2) (.int i) (hp w hs) = some (hp { w with l := i } hs) := (rfl)
@[simp] theorem st_w3 (i : Nat) : setAt (.ref 0) (.int 3) (.int i) (hp w hs) = some (hp { w with a := i } hs) := (rfl)
@[simp] theorem st_w40 : setAt (.ref 0) (.int 4) (.int 0) (hp w hs) = some (hp { w with b := 0 } hs) := (rfl)
@[simp] theorem st_w4 (i : Nat) : setAt (.ref 0) (.int 4) (.int (i + 1)) (hp w hs) = some (hp { w with b := i + 1 } hs) := (rfl)
@[simp] theorem st_w5 (i : Nat) : setAt (.ref 0) (.int 5) (.int (i + 1)) (hp w hs) = some (hp { w with c := i + 1 } hs) := (rfl)
end
/-- what a draw gives -/
structure Draws (M : Mo) : Prop where
  ok : ∀ {k : Nat} {hs : Hh} {w : Wl} {m : Nat} {P : EV → Hh → Prop} {X : Nat → Hh → Prop}, 0 < k → 0 < m → m < 1000000 → w.t < TT → (∀ (r : Nat) w', r < m → Stp 1 0 w w' → P (.int r) (hp w' hs)) → RW ((M.cx k).callF 29 [.ref 0, .int m] (hp w hs)) P X
theorem mod_int (i j : Int) (h : Hh) : opMod (.int i) (.int j) h = if decide (0 < j) then .ok (.int (i % j)) h else .bad := rfl
theorem fdiv_int (i j : Int) (h : Hh) : opFdiv (.int i) (.int j) h = if decide (0 < j) && decide (j < 1073741824) then .ok (.int (i / j)) h else .bad := rfl
theorem mul_int (i j : Int) (h : Hh) : opMul (.int i) (.int j) h = if small i || small j then .ok (.int (i * j)) h else .bad := rfl
theorem pow_int (i j : Int) (h : Hh) : opPow (.int i) (.int j) h = if decide (0 ≤ j) && decide (j ≤ 1000000) && small i then .ok (.int (powI i j)) h else .bad := rfl
theorem mod_pos (i j : Int) (h : Hh) (hj : 0 < j) : opMod (.int i) (.int j) h = .ok (.int (i % j)) h := by rw [mod_int, decide_eq_true hj]; rfl
@[simp] theorem mod_nat0 (i : Int) (m : Nat) (h : Hh) : opMod (.int i) (.int m) h = if 0 < m then .ok (.int (i % m)) h else .bad := by
  rw [mod_int]
  by_cases e : 0 < m
  · rw [if_pos e, decide_eq_true (by omega : (0 : Int) < m)]; rfl
  · rw [if_neg e, decide_eq_false (by omega : ¬ (0 : Int) < m)]; rfl
@[simp] theorem fdiv_64 (i : Int) (h : Hh) : opFdiv (.int i) (.int 64) h = .ok (.int (i / 64)) h := (rfl)
@[simp] theorem mod_26 (i : Int) (h : Hh) : opMod (.int i) (.int 26) h = .ok (.int (i % 26)) h := (rfl)
@[simp] theorem fdiv_26 (i : Int) (h : Hh) : opFdiv (.int i) (.int 26) h = .ok (.int (i / 26)) h := (rfl)
theorem fdiv_nat (i : Int) (m : Nat) (h : Hh) : opFdiv (.int i) (.int m) h = if 0 < m ∧ m < 1000000 then .ok (.int (i / m)) h else opFdiv (.int i) (.int m) h := by
  by_cases e : 0 < m ∧ m < 1000000
  · rw [if_pos e, fdiv_int, decide_eq_true (by omega : (0 : Int) < m), decide_eq_true (by omega : (m : Int) < 1073741824)]; rfl
  · rw [if_neg e]
theorem pow_of (i j : Int) (h : Hh) (h1 : 0 ≤ j) (h2 : j ≤ 1000000) : opPow (.int i) (.int j) h = if small i then .ok (.int (powI i j)) h else .bad := by
  rw [pow_int, decide_eq_true h1, decide_eq_true h2]; rfl
@[simp] theorem pow_5 (i : Int) (h : Hh) : opPow (.int i) (.int 5) h = if small i then .ok (.int (powI i 5)) h else .bad := pow_of _ _ _ (by omega) (by omega)
@[simp] theorem pow_3 (i : Int) (h : Hh) : opPow (.int i) (.int 3) h = if small i then .ok (.int (powI i 3)) h else .bad := pow_of _ _ _ (by omega) (by omega)
@[simp] theorem pow_1018 (h : Hh) : opPow (.int 10) (.int 18) h = .ok (.int 1000000000000000000) h := by
  rw [pow_of _ _ _ (by omega) (by omega)]; rfl
theorem mul_l (i j : Int) (h : Hh) (hi : small i = true) : opMul (.int i) (.int j) h = .ok (.int (i * j)) h := by rw [mul_int, hi]; rfl
theorem mul_r (i j : Int) (h : Hh) (hi : small j = true) : opMul (.int i) (.int j) h = .ok (.int (i * j)) h := by rw [mul_int, hi, Bool.or_true]; rfl
theorem small_of {i : Int} (h1 : -18446744073709551616 < i) (h2 : i < 18446744073709551616) : small i = true := by unfold small; simp [h1, h2]
@[simp] theorem mul_2 (j : Int) (h : Hh) : opMul (.int 2) (.int j) h = .ok (.int (2 * j)) h := mul_l _ _ _ (small_of (by omega) (by omega))
@[simp] theorem mul_4 (j : Int) (h : Hh) : opMul (.int 4) (.int j) h = .ok (.int (4 * j)) h := mul_l _ _ _ (small_of (by omega) (by omega))
theorem mod_nat {x : Int} {m : Nat} (hm : 0 < m) : ∃ r : Nat, r < m ∧ x % (m : Int) = (r : Int) := by
  have h1 := Int.emod_nonneg x (show (m : Int) ≠ 0 by omega)
  have h2 := Int.emod_lt_of_pos x (show (0 : Int) < m by omega)
  exact ⟨(x % (m : Int)).toNat, by omega, by omega⟩
/-- the draw of several laws, by its numbers -/
def drawDf (A B C D p q r : Int) : Df := ⟨2, 6, (.cons (.ite (.cmp .gt (.idx (.var 0) (.int 2)) (.int 0)) (.cons (.asg (.nm 5) (.bi .int_ (.idx (.var 0) (.int 2))))
  (.cons (.setR (.var 0) (.int 2) (.op .fdiv (.var 5) (.var 1)))
  (.cons (.ret (.op .mod (.bi .int_ (.var 5)) (.var 1)))
  .nil))) .nil)
  (.cons (.asg (.nm 2) (.idx (.var 0) (.int 1)))
  (.cons (.setR (.var 0) (.int 1) (.op .add (.var 2) (.int 1)))
  (.cons (.asg (.nm 3) (.op .add (.op .mul (.int A) (.var 2)) (.int B)))
  (.cons (.ite (.cmp .ne (.idx (.var 0) (.int 0)) (.lst .nil)) (.cons (.asg (.nm 3) (.idx (.idx (.var 0) (.int 0)) (.op .mod (.bi .int_ (.var 2)) (.bi .len (.idx (.var 0) (.int 0))))))
  .nil) .nil)
  (.cons (.ite (.and_ (.cmp .lt (.var 2) (.bi .len (.idx (.var 0) (.int 0)))) (.cmp .ge (.bi .abs (.var 3)) (.op .pow (.int 10) (.int 18)))) (.cons (.asg (.nm 5) (.op .add (.op .mul (.int 2) (.op .sub (.bi .abs (.bi .int_ (.var 3))) (.op .pow (.int 10) (.int 18)))) (.bi .int_ (.cmp .lt (.var 3) (.int 0)))))
  (.cons (.setR (.var 0) (.int 2) (.op .fdiv (.var 5) (.var 1)))
  (.cons (.ret (.op .mod (.bi .int_ (.var 5)) (.var 1)))
  .nil))) .nil)
  (.cons (.asg (.nm 4) (.op .mod (.bi .int_ (.op .pow (.op .add (.op .add (.op .mod (.bi .int_ (.var 3)) (.int p)) (.op .mul (.int C) (.var 2))) (.int B)) (.int 5))) (.int q)))
  (.cons (.asg (.nm 4) (.op .mod (.bi .int_ (.op .pow (.op .add (.op .add (.op .mul (.var 4) (.op .add (.op .mul (.int 2) (.var 2)) (.int D))) (.op .mul (.op .mul (.int A) (.var 2)) (.var 2))) (.int C)) (.int 3))) (.int r)))
  (.cons (.ret (.op .mod (.bi .int_ (.op .fdiv (.var 4) (.int 64))) (.var 1)))
  .nil))))))))), false⟩
theorem draw_is : f_law_draw = drawDf 91009 2311 5407 311 2147483587 2147483563 2147483549 := rfl
theorem draw_ok {M : Mo} {A B C D p q r : Int} (e : M.df 29 = some (drawDf A B C D p q r)) (hA : 0 ≤ A ∧ A ≤ 1000000) (hB : 0 ≤ B ∧ B ≤ 1000000) (hC : 0 ≤ C ∧ C ≤ 1000000) (hD : 0 ≤ D ∧ D ≤ 1000000) (hp : 0 < p ∧ p ≤ 2147483647) (hq : 0 < q ∧ q ≤ 2147483647) (hr : 0 < r) : Draws M := by
  constructor
  intro k hs w m P X hk h0 hm ht Q
  rw [call_of e hk]
  refine RW_run rfl ?_
  have fd : ∀ i h, opFdiv (.int i) (.int m) h = .ok (.int (i / m)) h := fun i h => by rw [fdiv_nat, if_pos ⟨h0, hm⟩]
  unfold TT at ht
  have t1 : (0 : Int) ≤ w.t := by omega
  have t2 : (w.t : Int) < 1000000 := by omega
  have mp : ∀ i h, opMod (.int i) (.int p) h = .ok (.int (i % p)) h := fun i h => mod_pos _ _ _ hp.1
  have mq : ∀ i h, opMod (.int i) (.int q) h = .ok (.int (i % q)) h := fun i h => mod_pos _ _ _ hq.1
  have mr : ∀ i h, opMod (.int i) (.int r) h = .ok (.int (i % r)) h := fun i h => mod_pos _ _ _ hr
  have lA : ∀ j h, opMul (.int A) (.int j) h = .ok (.int (A * j)) h := fun j h => mul_l _ _ _ (small_of (by omega) (by omega))
  have lC : ∀ j h, opMul (.int C) (.int j) h = .ok (.int (C * j)) h := fun j h => mul_l _ _ _ (small_of (by omega) (by omega))
  have end_ : ∀ (x : Int) (w1 : Wl) (l : Int), w1 = { w with t := w.t + 1, l := l } → ∃ r : Nat, x % (m : Int) = (r : Int) ∧ P (.int r) (Pl.hp w1 hs) := fun x w1 l e => by
    obtain ⟨r, hr, e2⟩ := mod_nat (x := x) h0
    subst e
    exact ⟨r, e2, Q r _ hr ⟨by simp, by simp, rfl, by simp, by simp⟩⟩
  have tail : ∀ (cell : Int) (v5 : Option SV), SW (exSs (M.cx (k - 1)) (match (drawDf A B C D p q r).body with
      | .cons _ (.cons _ (.cons _ (.cons _ (.cons _ (.cons _ r))))) => r
      | r => r) [some (.val (.ref 0)), some (.val (.int m)), some (.val (.int w.t)), some (.val (.int cell)), none, v5] (Pl.hp { w with t := w.t + 1 } hs)) (fun _ h => (drawDf A B C D p q r).fresh = false ∧ P .non h) P X := fun cell v5 => by
    have c1 := Int.emod_nonneg cell (show p ≠ 0 by omega)
    have c2 := Int.emod_lt_of_pos cell hp.1
    have c3 : 0 ≤ C * (w.t : Int) := Int.mul_nonneg hC.1 t1
    have c4 : C * (w.t : Int) ≤ 1000000 * 1000000 := Int.mul_le_mul (by omega) (by omega) (by omega) (by omega)
    have s5 : small (cell % p + C * ↑w.t + B) = true := small_of (by omega) (by omega)
    have s7 : ∀ i h, opMul (.int i) (.int w.t) h = .ok (.int (i * w.t)) h := fun i h => mul_r _ _ _ (small_of (by omega) (by omega))
    simp [drawDf, s5, s7, mp, mq, mr, lA, lC]
    generalize hx : powI (cell % p + C * ↑w.t + B) 5 % q = x
    have x1 : 0 ≤ x := by rw [← hx]; exact Int.emod_nonneg _ (by omega)
    have x2 : x < q := by rw [← hx]; exact Int.emod_lt_of_pos _ hq.1
    have m1 : 0 ≤ x * (2 * ↑w.t + D) := Int.mul_nonneg x1 (by omega)
    have m2 : x * (2 * ↑w.t + D) ≤ 2147483647 * 3000000 := Int.mul_le_mul (by omega) (by omega) (by omega) (by omega)
    have m5 : 0 ≤ A * (w.t : Int) := Int.mul_nonneg hA.1 t1
    have m6 : A * (w.t : Int) ≤ 1000000 * 1000000 := Int.mul_le_mul (by omega) (by omega) (by omega) (by omega)
    have m3 : 0 ≤ A * (w.t : Int) * ↑w.t := Int.mul_nonneg m5 t1
    have m4 : A * (w.t : Int) * ↑w.t ≤ 1000000000000 * 1000000 := Int.mul_le_mul (by omega) (by omega) (by omega) (by omega)
    have s6 : ∀ j h, opMul (.int x) (.int j) h = .ok (.int (x * j)) h := fun j h => mul_l _ _ _ (small_of (by omega) (by omega))
    have s8 : small (x * (2 * ↑w.t + D) + A * ↑w.t * ↑w.t + C) = true := small_of (by omega) (by omega)
    simp [s6, s8, h0, mr]
    obtain ⟨r', e2, q2⟩ := end_ (powI (x * (2 * ↑w.t + D) + A * ↑w.t * ↑w.t + C) 3 % r / 64) _ w.l rfl
    rw [e2]
    exact q2
  simp [drawDf] at tail
  have sh : shps 59 (w.cells.map .int) = true := shps_all fun x hx => by
    obtain ⟨i, _, rfl⟩ := List.mem_map.mp hx
    simp
  simp [drawDf, startE]
  by_cases hl : 0 < w.l
  · simp [hl, h0, fd]
    obtain ⟨r, hr, e⟩ := mod_nat (x := w.l) h0
    rw [e]
    exact Q r _ hr ⟨Nat.le_refl _, by simp, rfl, by simp, by simp⟩
  · simp [hl, sh, lA]
    by_cases hc : w.cells = []
    · have e0 : eqvs (w.cells.map .int) [] = true := by rw [hc]; rfl
      have e1 : ¬ (w.t : Int) < 0 := by omega
      have z : w.cells.length = 0 := by rw [hc]; rfl
      simp [e0, z, e1]
      exact tail _
    · have e0 : eqvs (w.cells.map .int) [] = false := by
        cases hh : w.cells with
        | nil => exact (hc hh).elim
        | cons a l => rfl
      have l0 : 0 < w.cells.length := by
        cases hh : w.cells with
        | nil => exact (hc hh).elim
        | cons a l => simp
      obtain ⟨j, hj, ej⟩ := mod_nat (x := (w.t : Int)) l0
      have hx : opIdx (.lst (w.cells.map .int)) (.int j) (Pl.hp { w with t := w.t + 1 } hs) = .ok (.int w.cells[j]) (Pl.hp { w with t := w.t + 1 } hs) := by
        unfold opIdx atX ixAt
        simp [hj]
      simp [e0, l0, ej, hx]
      by_cases h1 : w.t < w.cells.length
      · simp [h1]
        by_cases h2 : (1000000000000000000 : Int) ≤ (if w.cells[j] < 0 then -w.cells[j] else w.cells[j])
        · simp [h2, fd, h0]
          obtain ⟨r', e2, q2⟩ := end_ (2 * ((if w.cells[j] < 0 then -w.cells[j] else w.cells[j]) - 1000000000000000000) + (if w.cells[j] < 0 then 1 else 0)) _ ((2 * ((if w.cells[j] < 0 then -w.cells[j] else w.cells[j]) - 1000000000000000000) + (if w.cells[j] < 0 then 1 else 0)) / m) rfl
          rw [e2]
          exact q2
        · simp [h2]
          exact tail _
      · simp [h1]
        exact tail _
end Pl
end
section
set_option autoImplicit false
set_option linter.all false
set_option maxRecDepth 100000
/-! P7: what is drawn: one of some, words, tables. -/
namespace Pl
open Ev K64
theorem ix_lst {ys : List EV} {i : Nat} (h : Hh) (hi : i < ys.length) : opIdx (.lst ys) (.int i) h = .ok ys[i] h := by
  unfold opIdx atX ixAt
  simp [hi]
theorem ix_tup {ys : List EV} {i : Nat} (h : Hh) (hi : i < ys.length) : opIdx (.tup ys) (.int i) h = .ok ys[i] h := by
  unfold opIdx atX ixAt
  simp [hi]
theorem ix_str {ys : S} {i : Nat} (h : Hh) (hi : i < ys.length) : opIdx (.str ys) (.int i) h = .ok (.str [ys[i]]) h := by
  unfold opIdx atX ixAt
  simp [hi]
theorem rangeF_eq (n : Nat) : ∀ i : Nat, rangeF i n = (List.range' i n).map fun j : Nat => EV.int j := by
  induction n with
  | zero => intro i; rfl
  | succ n ih =>
    intro i
    rw [List.range'_succ, List.map_cons]
    unfold rangeF
    have := ih (i + 1)
    rw [← this]
    rfl
/-- letters of a name -/
def lett (a n : Nat) : S := (97 + n) :: (match a with
  | 0 => []
  | 1 => [120]
  | 2 => [114, 111, 119]
  | _ => [113])
theorem lett_word {a n : Nat} (hn : n < 16) : isWord (lett a n) = true := by
  unfold lett isWord
  have : isLet (97 + n) = true := by unfold isLet; simp; omega
  split <;> simp [this] <;> decide
theorem lett_inj {a n m : Nat} (h : lett a n = lett a m) : n = m := by
  unfold lett at h
  simp at h
  exact h
theorem lett_len (a n : Nat) : (lett a n).length ≤ 4 := by
  unfold lett
  split <;> simp
section
variable {M : Mo} (H : Has M) (D : Draws M) {k : Nat} {hs : Hh} {w : Wl} {P : EV → Hh → Prop} {X : Nat → Hh → Prop}
include H D
theorem one_lst {ys : List EV} (hk : 2 ≤ k) (h0 : 0 < ys.length) (h1 : ys.length < 1000000) (ht : w.t < TT) (q : ∀ y ∈ ys, ∀ w', Stp 1 0 w w' → P y (hp w' hs)) : RW ((M.cx k).callF 30 [.ref 0, .lst ys] (hp w hs)) P X := by
  rw [call_of (H.df 30 f_law_one (by decide) (by decide) rfl) (by omega)]
  refine RW_run rfl ?_
  simp [f_law_one, startE]
  refine D.ok (by omega) h0 h1 ht fun r w' hr st => ?_
  simp [ix_lst _ hr]
  exact q _ (List.getElem_mem _) w' st
theorem one_tup {ys : List EV} (hk : 2 ≤ k) (h0 : 0 < ys.length) (h1 : ys.length < 1000000) (ht : w.t < TT) (q : ∀ y ∈ ys, ∀ w', Stp 1 0 w w' → P y (hp w' hs)) : RW ((M.cx k).callF 30 [.ref 0, .tup ys] (hp w hs)) P X := by
  rw [call_of (H.df 30 f_law_one (by decide) (by decide) rfl) (by omega)]
  refine RW_run rfl ?_
  simp [f_law_one, startE]
  refine D.ok (by omega) h0 h1 ht fun r w' hr st => ?_
  simp [ix_tup _ hr]
  exact q _ (List.getElem_mem _) w' st
omit D in
theorem letters_ok {n : Nat} (hk : 1 ≤ k) (ha : w.a < 4) (hn : n < 16) : (M.cx k).callF 31 [.ref 0, .int n] (hp w hs) = .ok (.str (lett w.a n)) (hp w hs) := by
  rw [call_of (H.df 31 f_law_letters (by decide) (by decide) rfl) (by omega)]
  refine RW_eq (RW_run rfl ?_)
  simp [f_law_letters, startE]
  have e1 : opIdx (.str [97, 98, 99, 100, 101, 102, 103, 104, 105, 106, 107, 108, 109, 110, 111, 112]) (.int n) (hp w hs) = .ok (.str [97 + n]) (hp w hs) := by
    rw [ix_str _ (by simpa using hn)]
    have : ∀ n, (h : n < 16) → ([97, 98, 99, 100, 101, 102, 103, 104, 105, 106, 107, 108, 109, 110, 111, 112] : List Nat)[n] = 97 + n := by decide
    rw [this n hn]
  have e2 : opIdx (.lst [.str [], .str [120], .str [114, 111, 119], .str [113]]) (.int w.a) (hp w hs) = .ok (.str (lett w.a n).tail) (hp w hs) := by
    rw [ix_lst _ (by simpa using ha)]
    have : ∀ a, (h : a < 4) → ([EV.str [], .str [120], .str [114, 111, 119], .str [113]] : List EV)[a] = .str (lett a n).tail := by
      intro a h
      match a, h with
      | 0, _ => rfl
      | 1, _ => rfl
      | 2, _ => rfl
      | 3, _ => rfl
    rw [this w.a ha]
  have l := lett_len w.a n
  have l2 : 1 + ((lett w.a n).length - 1) ≤ L := by
    have : L = 16777216 := rfl
    omega
  simp [e1, e2, l2]
  rfl
end
/-- a drawn table -/
structure TbG (a n : Nat) (t : Tb) : Prop where
  name : t.name = lett a (4 * n + 3)
  few : t.fields.length ≤ 3
  flds : ∀ i c, t.fields[i]? = some c → c.1 = lett a (4 * n + i)
  ne : ∃ nm kd r, t.fields = (nm, kd, false) :: r
  klen : t.keys.length ≤ 3
  key : ∀ key ∈ t.keys, key.length ≤ 3 ∧ ∀ nm ∈ key, ∃ c ∈ t.fields, c.1 = nm ∧ c.2.2 = false
theorem TbG.ok {a n : Nat} {t : Tb} (g : TbG a n t) (hn : n ≤ 3) : TbOk t where
  name := by rw [g.name]; exact lett_word (by omega)
  words := fun c hc => by
    obtain ⟨i, hi⟩ := List.getElem?_of_mem hc
    rw [g.flds i c hi]
    have := (List.getElem?_eq_some_iff.mp hi).1
    have := g.few
    exact lett_word (by omega)
  nd := by
    rw [List.nodup_iff_pairwise_ne, List.pairwise_iff_getElem]
    intro i j hi hj hij e
    rw [List.getElem_map, List.getElem_map, g.flds i _ (List.getElem?_eq_getElem _), g.flds j _ (List.getElem?_eq_getElem _)] at e
    have := lett_inj e
    omega
  few := by have := g.few; omega
def TI (hs : Hh) (w : Wl) (n m : Nat) (r : List Nat) (env : Env) (h' : Hh) : Prop := ∃ (fs : Cols) (w2 : Wl) (a3 a6 : Option SV), env = [some (.val (.ref 0)), some (.val (.int n)), some (.oL (fs.map eCol)), a3, none, none, a6, none, none] ∧ h' = hp w2 hs ∧
    r = List.range' fs.length (m + 1 - fs.length) ∧ Stp (1 + 2 * fs.length) 0 w w2 ∧ fs.length ≤ m + 1 ∧ (∀ i c, fs[i]? = some c → c.1 = lett w.a (4 * n + i)) ∧ (fs = [] ∨ ∃ nm kd r, fs = (nm, kd, false) :: r)
section
variable {M : Mo} (H : Has M) (D : Draws M) {k : Nat} {hs : Hh} {w : Wl} {P : EV → Hh → Prop} {X : Nat → Hh → Prop}
include H D
theorem table_ok {n : Nat} (hk : 4 ≤ k) (ha : w.a < 4) (hn : n ≤ 3) (ht : w.t + 10 < TT) (q : ∀ t, TbG w.a n t → ∀ w', Stp 10 0 w w' → P t.e (hp w' hs)) : RW ((M.cx k).callF 33 [.ref 0, .int n] (hp w hs)) P X := by
  rw [call_of (H.df 33 f_law_table (by decide) (by decide) rfl) (by omega)]
  refine RW_run rfl ?_
  simp [f_law_table, startE]
  refine one_lst H D (by omega) (by simp) (by simp) (by omega) fun y hy w1 s1 => ?_
  obtain ⟨m, rfl, hm⟩ : ∃ m : Nat, y = .int m ∧ m ≤ 2 := by
    simp at hy
    rcases hy with rfl | rfl | rfl
    · exact ⟨0, rfl, by omega⟩
    · exact ⟨1, rfl, by omega⟩
    · exact ⟨2, rfl, by omega⟩
  have e1 : small62 (1 + (m : Int)) = true := by unfold small62; simp; omega
  have e2 : (1 + (m : Int)).toNat = m + 1 := by omega
  have e3 := rangeF_eq (m + 1) 0
  have e4 : rangeF 0 (m + 1) = (List.range' 0 (m + 1)).map fun j : Nat => EV.int j := e3
  simp [e1, e2, e4]
  refine SW_for (fun j : Nat => EV.int j) (TI hs w n m) _ ⟨[], w1, none, none, rfl, rfl, rfl, s1, by simp, by simp, .inl rfl⟩ ?_ ?_
  · rintro j r env h' ⟨fs, w2, a3, a6, rfl, rfl, er, s2, l2, f2, n2⟩
    have lt : fs.length < m + 1 := by
      rcases Nat.lt_or_ge fs.length (m + 1) with z | z
      · exact z
      · rw [Nat.sub_eq_zero_of_le z] at er; cases er
    have sub : m + 1 - fs.length = (m - fs.length) + 1 := by omega
    rw [sub, List.range'_succ, List.cons.injEq] at er
    obtain ⟨rfl, rfl⟩ := er
    refine ⟨_, rfl, ?_⟩
    have b2 := s2.hi
    have a2 := s2.a
    simp
    refine one_lst H D (by omega) (by simp) (by simp) (by omega) fun y hy w3 s3 => ?_
    obtain ⟨kd, rfl⟩ : ∃ kd : Kd, y = .str kd.s := by
      simp at hy
      rcases hy with rfl | rfl
      · exact ⟨.num, rfl⟩
      · exact ⟨.txt, rfl⟩
    have a3' : w3.a = w.a := s3.a.trans a2
    have el : (4 * (n : Int) + (fs.length : Int)) = ((4 * n + fs.length : Nat) : Int) := by omega
    have ll : (M.cx (k - 1)).callF 31 [.ref 0, .int (4 * (n : Int) + (fs.length : Int))] (hp w3 hs) = .ok (.str (lett w.a (4 * n + fs.length))) (hp w3 hs) := by
      rw [el, ← a3']
      exact letters_ok H (by omega) (by omega) (by omega)
    have sL : fs.length < L := by have : L = 16777216 := rfl; omega
    have fin : ∀ (mb : Bool) (w4 : Wl) (a3 a6 : Option SV), Stp 1 0 w3 w4 → (fs = [] → mb = false) → TI hs w n m (List.range' (fs.length + 1) (m - fs.length)) [some (.val (.ref 0)), some (.val (.int n)), some (.oL (fs.map eCol ++ [EV.tup [.str (lett w.a (4 * n + fs.length)), .str kd.s, .bl mb]])), a3, none, none, a6, none, none] (hp w4 hs) := by
      intro mb w4 a3 a6 s4 hmb
      refine ⟨fs ++ [(lett w.a (4 * n + fs.length), kd, mb)], w4, a3, a6, by simp [eCol], rfl, by simp, ((s2.trans s3).trans s4).le (by simp; omega) (by omega), by simp; omega, fun i c hi => ?_, .inr ?_⟩
      · rcases Nat.lt_or_ge i fs.length with z | z
        · rw [List.getElem?_append_left z] at hi
          exact f2 i c hi
        · rw [List.getElem?_append_right z] at hi
          have : i = fs.length := by
            rcases Nat.lt_or_ge fs.length i with y | y
            · rw [List.getElem?_eq_none (by simp; omega)] at hi; cases hi
            · omega
          subst this
          simp at hi
          subst hi
          rfl
      · rcases n2 with rfl | ⟨nm, kd', r, rfl⟩
        · rw [hmb rfl]; exact ⟨_, _, _, rfl⟩
        · exact ⟨_, _, _, rfl⟩
    simp [ll]
    by_cases hj : 0 < fs.length
    · simp [hj]
      refine D.ok (m := 2) (by omega) (by omega) (by omega) (by have := s3.hi; omega) fun r w4 hr s4 => ?_
      simp [sL]
      exact fin ((r : Int) == 0) w4 _ _ s4 (fun z => by rw [z] at hj; simp at hj)
    · simp [hj, sL]
      exact fin false w3 _ _ ((Stp.refl w3).le (by omega) (by omega)) (fun _ => rfl)
  · rintro env h' ⟨fs, w2, a3, a6, rfl, rfl, er, s2, l2, f2, n2⟩
    have len : fs.length = m + 1 := by
      have := congrArg List.length er
      simp at this
      omega
    obtain ⟨nm, kd, fr, hne⟩ : ∃ nm kd r, fs = (nm, kd, false) :: r := by
      rcases n2 with rfl | z
      · simp at len
      · exact z
    have b2 := s2.hi
    have fl : fs.length ≤ L := by have : L = 16777216 := rfl; omega
    simp
    rw [comps_pure (p := fun c : Col => !c.2.2) (f := fun c : Col => .str c.1) _ _ (by simpa using fl) (fun c hc => ⟨_, rfl, by simp, by simp⟩)]
    generalize hsu : (fs.filter fun c => !c.2.2).map (·.1) = sure
    have hsu2 : (fs.filter fun c => !c.2.2).map (fun c => EV.str c.1) = sure.map .str := by rw [← hsu]; simp
    have sl : sure.length ≤ 3 := by
      rw [← hsu, List.length_map]
      have := List.length_filter_le (fun c : Col => !c.2.2) fs
      omega
    have sm : ∀ x ∈ sure, ∃ c ∈ fs, c.1 = x ∧ c.2.2 = false := fun x hx => by
      rw [← hsu] at hx
      obtain ⟨c, hc, rfl⟩ := List.mem_map.mp hx
      obtain ⟨h1, h2⟩ := List.mem_filter.mp hc
      exact ⟨c, h1, rfl, by simpa using h2⟩
    obtain ⟨s0, sr, hs0⟩ : ∃ s0 sr, sure = s0 :: sr := by
      rw [← hsu, hne]
      simp
    rw [hsu2]
    have ix0 : ∀ h, opIdx (.lst (sure.map .str)) (.int 0) h = .ok (.str s0) h := fun h => by rw [hs0]; exact ix_l0 _ _ _
    have lsL : sure.length ≤ L := by have : L = 16777216 := rfl; omega
    simp [ix0]
    rw [comps_map (f := fun x : S => .tup [.str x]) _ _ (by simpa using lsL) (fun c hc => ⟨_, rfl, by simp⟩)]
    simp
    refine one_lst H D (by omega) (by simp) (by simp) (by omega) fun y hy w3 s3 => ?_
    obtain ⟨keys, rfl, k1, k2⟩ : ∃ keys : List (List S), y = .tup (keys.map fun k => .tup (k.map .str)) ∧ keys.length ≤ 3 ∧ ∀ key ∈ keys, key.length ≤ 3 ∧ ∀ nm ∈ key, nm ∈ sure := by
      simp at hy
      rcases hy with rfl | rfl | rfl | rfl
      · exact ⟨[], rfl, by simp, by simp⟩
      · exact ⟨[[s0]], rfl, by simp, by simp [hs0]⟩
      · exact ⟨[sure], rfl, by simp, by simpa using sl⟩
      · exact ⟨sure.map fun x => [x], by simp, by simpa using sl, by simp⟩
    have a3' : w3.a = w.a := s3.a.trans s2.a
    have el : (4 * (n : Int) + 3) = ((4 * n + 3 : Nat) : Int) := by omega
    have ll : (M.cx (k - 1)).callF 31 [.ref 0, .int (4 * (n : Int) + 3)] (hp w3 hs) = .ok (.str (lett w.a (4 * n + 3))) (hp w3 hs) := by
      rw [el, ← a3']
      exact letters_ok H (by omega) (by omega) (by omega)
    simp [ll]
    have q := q ⟨lett w.a (4 * n + 3), fs, keys⟩ ⟨rfl, by show fs.length ≤ 3; omega, f2, ⟨nm, kd, fr, hne⟩, k1, fun key hk => ⟨(k2 key hk).1, fun x hx => sm x ((k2 key hk).2 x hx)⟩⟩ w3 ((s2.trans s3).le (by omega) (by omega))
    exact q
end
end Pl
end
section
set_option autoImplicit false
set_option linter.all false
set_option maxRecDepth 100000
/-! P8: dicts by names; points; frames. -/
namespace Pl
open Ev K64
section
variable {β : Type}
def dK (ds : List (S × β)) : List K0 := ds.map fun p => K0.s p.1
def dV (f : β → EV) (ds : List (S × β)) : List EV := ds.map fun p => f p.2
def eD (f : β → EV) (ds : List (S × β)) : EV := .dct (dK ds) (dV f ds)
theorem mem_dK {ds : List (S × β)} {n : S} : K0.s n ∈ dK ds ↔ n ∈ ds.map (·.1) := by
  unfold dK
  simp only [List.mem_map]
  constructor
  · rintro ⟨p, hp, e⟩; cases e; exact ⟨p, hp, rfl⟩
  · rintro ⟨p, hp, rfl⟩; exact ⟨p, hp, rfl⟩
theorem dputV_new : ∀ {ks : List K0} {vs : List EV} {q : K0} {x : EV}, ks.length = vs.length → q ∉ ks → dputV ks vs q x = vs ++ [x]
  | [], [], _, _, _, _ => rfl
  | k :: ks, v :: vs, q, x, hl, hn => by
    simp only [List.mem_cons, not_or] at hn
    unfold dputV
    rw [if_neg (fun z => hn.1 z.symm), dputV_new (by simpa using hl) hn.2]
    rfl
theorem dput_e (f : β → EV) {ds : List (S × β)} {n : S} {b : β} (hn : n ∉ ds.map (·.1)) : dputK (dK ds) (.s n) = dK (ds ++ [(n, b)]) ∧ dputV (dK ds) (dV f ds) (.s n) (f b) = dV f (ds ++ [(n, b)]) := by
  have h1 : K0.s n ∉ dK ds := fun z => hn (mem_dK.mp z)
  constructor
  · unfold dputK; rw [if_neg h1]; simp [dK]
  · rw [dputV_new (by simp [dK, dV]) h1]; simp [dV]
theorem nd_tail {ds : List (S × β)} {c : S × β} {es : List (S × β)} (h : ((ds ++ c :: es).map (·.1)).Nodup) : c.1 ∉ ds.map (·.1) := by
  rw [List.map_append, List.map_cons] at h
  have := (List.nodup_append.mp h).2.2
  exact fun m => this _ m _ (by simp) rfl
theorem dictOf_e (f : β → EV) : ∀ (es ds : List (S × β)), ((ds ++ es).map (·.1)).Nodup → dictOf (es.map fun p => .tup [.str p.1, f p.2]) (dK ds) (dV f ds) = some (dK (ds ++ es), dV f (ds ++ es))
  | [], ds, _ => by simp [dictOf]
  | c :: es, ds, h => by
    have hn := nd_tail h
    have ih := dictOf_e f es (ds ++ [c]) (by simpa using h)
    obtain ⟨e1, e2⟩ := dput_e f (b := c.2) hn
    simp only [List.map_cons, dictOf, key_str, e1, e2]
    rw [ih]; simp
theorem dict_of (f : β → EV) {ds : List (S × β)} (h : (ds.map (·.1)).Nodup) (hh : Hh) : runBi .dict [.lst (ds.map fun p => .tup [.str p.1, f p.2])] hh = .ok (eD f ds) hh := by
  have := dictOf_e f ds [] (by simpa using h)
  rw [dict_lst]
  simp only [dK, dV, List.map_nil, List.nil_append] at this
  rw [this]; rfl
theorem dmergeD (f : β → EV) : ∀ (es ds : List (S × β)), ((ds ++ es).map (·.1)).Nodup → dmerge (dK es) (dV f es) (dK ds) (dV f ds) = (dK (ds ++ es), dV f (ds ++ es))
  | [], ds, _ => by simp [dK, dV, dmerge]
  | c :: es, ds, h => by
    have hn := nd_tail h
    have ih := dmergeD f es (ds ++ [c]) (by simpa using h)
    obtain ⟨e1, e2⟩ := dput_e f (b := c.2) hn
    have g1 : dK (c :: es) = .s c.1 :: dK es := rfl
    have g2 : dV f (c :: es) = f c.2 :: dV f es := rfl
    rw [g1, g2]
    simp only [dmerge]
    rw [e1, e2, ih]
    simp
theorem dgetD (f : β → EV) (ds : List (S × β)) (n : S) : dget (dK ds) (dV f ds) (.s n) = (ds.lookup n).map f := by
  induction ds with
  | nil => rfl
  | cons p ks ih =>
    obtain ⟨m, q⟩ := p
    unfold dK dV at *
    simp only [List.map_cons, dget, List.lookup_cons]
    by_cases e : m = n
    · subst e; simp
    · have : (n == m) = false := by simp [Ne.symm e]
      simp [e, this, ih]
@[simp] theorem ix_eD (f : β → EV) (ds : List (S × β)) (n : S) (h : Hh) : opIdx (eD f ds) (.str n) h = (match ds.lookup n with
    | some q => .ok (f q) h
    | none => .bad) := by
  unfold eD
  rw [ix_ds, dgetD]
  cases ds.lookup n <;> rfl
@[simp] theorem len_eD (f : β → EV) (ds : List (S × β)) (h : Hh) : runBi .len [eD f ds] h = .ok (.int ds.length) h := by simp [eD, dK]
@[simp] theorem dict_eD (f : β → EV) (ds : List (S × β)) (h : Hh) : runBi .dict [eD f ds] h = .ok (eD f ds) h := (rfl)
@[simp] theorem own_eD (f : β → EV) (ds : List (S × β)) : ownR true (eD f ds) = some (.oD (dK ds) (dV f ds)) := (rfl)
@[simp] theorem items_eD (f : β → EV) : ∀ (ds : List (S × β)) (h : Hh), runBi .items [eD f ds] h = .ok (.lst (ds.map fun p => .tup [.str p.1, f p.2])) h := fun ds h => by
  unfold eD
  rw [items_dct]
  congr 2
  unfold Ev.items dK dV
  induction ds with
  | nil => rfl
  | cons p r ih => simp only [List.map_cons, pair2, ih, kEV]
theorem lookup_ofG {ks : List (S × β)} {n : S} {q : β} (hd : (ks.map (·.1)).Nodup) (h : (n, q) ∈ ks) : ks.lookup n = some q := by
  induction ks with
  | nil => cases h
  | cons p r ih =>
    obtain ⟨m, u⟩ := p
    rw [List.lookup_cons]
    rw [List.map_cons, List.nodup_cons] at hd
    rcases List.mem_cons.mp h with e | h
    · cases e; simp
    · have : ¬ n = m := fun z => hd.1 (z ▸ (List.mem_map.mpr ⟨(n, q), h, rfl⟩ : n ∈ r.map (·.1)))
      have : (n == m) = false := by simp [this]
      rw [this]
      exact ih hd.2 h
theorem lookup_memG {ks : List (S × β)} {n : S} {q : β} (h : ks.lookup n = some q) : (n, q) ∈ ks := by
  induction ks with
  | nil => cases h
  | cons p r ih =>
    obtain ⟨m, u⟩ := p
    rw [List.lookup_cons] at h
    by_cases e : n = m
    · subst e; simp at h; subst h; simp
    · have : (n == m) = false := by simp [e]
      rw [this] at h
      exact List.mem_cons_of_mem _ (ih h)
end
def kS : Kd → EV := fun k => .str k.s
/-- a point from a table to another's key -/
structure Pt where
  from_ : S
  cols : List S
  to_ : S
  key : List S
def Pt.e (p : Pt) : EV := .tup [.str p.from_, .tup (p.cols.map .str), .str p.to_, .tup (p.key.map .str)]
def PtG (ts : List Tb) (p : Pt) : Prop := ∃ t ∈ ts, ∃ g ∈ ts, p.from_ = t.name ∧ p.to_ = g.name ∧ p.key ∈ g.keys ∧ p.cols.length = p.key.length ∧ ∀ x ∈ p.cols, ∃ c ∈ t.fields, c.1 = x
theorem enumF_eq : ∀ (l : List Tb) (i : Nat), enumF i (l.map Tb.e) = (l.zipIdx i).map fun p => .tup [.int p.2, p.1.e]
  | [], i => rfl
  | t :: l, i => by
    simp only [List.map_cons, enumF, List.zipIdx_cons, enumF_eq l (i + 1)]
theorem cut_from (xs : List EV) (i : Nat) (h : Hh) : opCut (.tup xs) (some (i : Int)) none h = .ok (.tup (xs.drop i)) h := by
  rw [cut_tup]
  congr 2
  unfold cut sIx
  have : ¬ (i : Int) < 0 := by omega
  simp only [this, if_false, Int.toNat_natCast]
  rw [List.take_of_length_le]
  · rcases Nat.le_total i xs.length with z | z
    · rw [Nat.min_eq_left z]
    · rw [Nat.min_eq_right z, List.drop_of_length_le (Nat.le_refl _), List.drop_of_length_le z]
  · simp
abbrev Sl := Option SV
/-- a state in the loops of points: table, goal, key and what is found, where they are told -/
def PI (hs : Hh) (w : Wl) (ts : List Tb) (B : Nat) (e3 e4 e5 e6 e7 : Option Sl) (env : Env) (h' : Hh) : Prop := ∃ (pts : List Pt) (w2 : Wl) (a3 a4 a5 a6 a7 a8 a9 a10 a11 : Sl),
  env = [some (.val (.ref 0)), some (.val (.tup (ts.map Tb.e))), some (.oL (pts.map Pt.e)), e3.getD a3, e4.getD a4, e5.getD a5, e6.getD a6, e7.getD a7, a8, a9, a10, a11, none, none, none] ∧ h' = hp w2 hs ∧
  pts.length ≤ 4 ∧ (∀ p ∈ pts, PtG ts p) ∧ Stp B 0 w w2
/-- within a key's names -/
def QI (hs : Hh) (w : Wl) (ts : List Tb) (B : Nat) (e3 e4 e5 e6 e7 : Sl) (tf : Cols) (m : Nat) (env : Env) (h' : Hh) : Prop := ∃ (pts : List Pt) (w2 : Wl) (a8 a11 : Sl) (lf : Cols) (fd : List S),
  env = [some (.val (.ref 0)), some (.val (.tup (ts.map Tb.e))), some (.oL (pts.map Pt.e)), e3, e4, e5, e6, e7, a8, some (.val (.lst (lf.map eCol))), some (.oL (fd.map .str)), a11, none, none, none] ∧ h' = hp w2 hs ∧
  pts.length ≤ 4 ∧ (∀ p ∈ pts, PtG ts p) ∧ Stp B 0 w w2 ∧ lf.length ≤ 3 ∧ fd.length ≤ m ∧ (∀ c ∈ lf, c ∈ tf) ∧ (∀ x ∈ fd, ∃ c ∈ tf, c.1 = x)
@[simp] theorem atX_last {α : Type} (l : List α) (x : α) : atX (l ++ [x]) (-1) = some x := by
  unfold atX ixAt
  have h1 : ¬ (0 : Int) ≤ -1 := by omega
  have h2 : -((l ++ [x]).length : Int) ≤ -1 := by simp; omega
  have h3 : (-1 + ((l ++ [x]).length : Int)).toNat = l.length := by simp; omega
  rw [if_neg h1, if_pos h2, Option.bind_some, h3, List.getElem?_append_right (Nat.le_refl _)]
  simp
section
variable {M : Mo} (H : Has M) (D : Draws M) {k : Nat} {hs : Hh} {w : Wl} {P : EV → Hh → Prop} {X : Nat → Hh → Prop}
include H D
theorem points_ok {ts : List Tb} (hk : 4 ≤ k) (hts : ts.length ≤ 3) (hg : ∀ t ∈ ts, ∃ n, n ≤ 3 ∧ TbG w.a n t) (ht : w.t + 108 < TT) (q : ∀ pts : List Pt, pts.length ≤ 4 → (∀ p ∈ pts, PtG ts p) → ∀ w', Stp 108 0 w w' → P (.tup (pts.map Pt.e)) (hp w' hs)) :
    RW ((M.cx k).callF 34 [.ref 0, .tup (ts.map Tb.e)] (hp w hs)) P X := by
  rw [call_of (H.df 34 f_law_points (by decide) (by decide) rfl) (by omega)]
  refine RW_run rfl ?_
  simp [f_law_points, startE, enumF_eq]
  refine SW_for (fun p : Tb × Nat => EV.tup [.int p.2, p.1.e]) (fun r env h' => r.length ≤ ts.length ∧ (∀ p ∈ r, p.1 ∈ ts) ∧ PI hs w ts (36 * (ts.length - r.length)) none none none none none env h') ts.zipIdx ⟨by simp, fun p hp => ?_, [], w, none, none, none, none, none, none, none, none, none, rfl, rfl, by simp, by simp, by simpa using Stp.refl w⟩ ?_ ?_
  · exact List.fst_mem_of_mem_zipIdx hp
  · rintro ⟨t, i⟩ r env h' ⟨rl, mem, pts, w2, a3, a4, a5, a6, a7, a8, a9, a10, a11, rfl, rfl, pl, pg, st⟩
    have tm := mem (t, i) (by simp)
    obtain ⟨tn, tn3, tg⟩ := hg t tm
    have cut := cut_from (ts.map Tb.e) (i + 1)
    rw [show ((i + 1 : Nat) : Int) = (i : Int) + 1 by omega] at cut
    simp only [List.length_cons] at rl st
    refine ⟨_, by simp; rfl, ?_⟩
    simp [cut, ← List.map_drop]
    refine SW_for Tb.e (fun r2 env h' => r2.length ≤ 3 ∧ (∀ p ∈ r2, p ∈ ts) ∧ PI hs w ts (36 * (ts.length - (r.length + 1)) + 12 * (3 - r2.length)) (some (some (.val (.int i)))) (some (some (.val t.e))) none none none env h') (ts.drop (i + 1)) ⟨by simp; omega, fun p hp => List.mem_of_mem_drop hp, pts, w2, none, none, a5, a6, a7, a8, a9, a10, a11, rfl, rfl, pl, pg, st.le (by omega) (by omega)⟩ ?_ ?_
    · rintro g r2 env h' ⟨r2l, mem2, pts, w2, b3, b4, b5, b6, b7, b8, b9, b10, b11, rfl, rfl, pl, pg, st⟩
      have gm := mem2 g (by simp)
      obtain ⟨gn, gn3, gg⟩ := hg g gm
      simp only [List.length_cons] at r2l st
      have ix2 : ∀ h, opIdx g.e (.int 2) h = .ok (.tup (g.keys.map fun k => .tup (k.map .str))) h := fun h => ix_t2 _ _ _ _ _
      have ix1 : ∀ h, opIdx g.e (.int 1) h = .ok (.tup (g.fields.map eCol)) h := fun h => ix_t1 _ _ _ _
      have ix0 : ∀ h, opIdx g.e (.int 0) h = .ok (.str g.name) h := fun h => ix_t0 _ _ _
      have ixt1 : ∀ h, opIdx t.e (.int 1) h = .ok (.tup (t.fields.map eCol)) h := fun h => ix_t1 _ _ _ _
      have ixt0 : ∀ h, opIdx t.e (.int 0) h = .ok (.str t.name) h := fun h => ix_t0 _ _ _
      have GO := gg.ok gn3
      have TO := tg.ok tn3
      refine ⟨_, by simp; rfl, ?_⟩
      simp [ix2]
      refine SW_for (fun k : List S => EV.tup (k.map .str)) (fun r3 env h' => r3.length ≤ 3 ∧ (∀ p ∈ r3, p ∈ g.keys) ∧ PI hs w ts (36 * (ts.length - (r.length + 1)) + 12 * (2 - r2.length) + 4 * (3 - r3.length)) (some (some (.val (.int i)))) (some (some (.val t.e))) (some (some (.val g.e))) none none env h') g.keys ⟨gg.klen, fun p hp => hp, pts, w2, none, none, none, b6, b7, b8, b9, b10, b11, rfl, rfl, pl, pg, st.le (by omega) (by omega)⟩ ?_ ?_
      · rintro key r3 env h' ⟨r3l, mem3, pts, w2, c3, c4, c5, c6, c7, c8, c9, c10, c11, rfl, rfl, pl, pg, st⟩
        have km := mem3 key (by simp)
        obtain ⟨kl, kf⟩ := gg.key key km
        simp only [List.length_cons] at r3l st
        refine ⟨_, by simp; rfl, ?_⟩
        have fl : g.fields.length ≤ L := by have := GO.few; have : L = 16777216 := rfl; omega
        simp [ix1]
        rw [comps_map (f := fun c : Col => .tup [.str c.1, .str c.2.1.s]) _ _ (by simpa using fl) (fun c hc => ⟨_, rfl, by simp⟩)]
        have dk := dict_of kS (ds := g.fields.map fun c => (c.1, c.2.1)) (by rw [List.map_map]; exact GO.nd)
        rw [List.map_map] at dk
        have dk' : ∀ h, runBi .dict [.lst (g.fields.map fun c => EV.tup [.str c.1, .str c.2.1.s])] h = .ok (eD kS (g.fields.map fun c => (c.1, c.2.1))) h := dk
        simp [dk', ixt1]
        refine SW_for (fun n : S => EV.str n) (fun r4 env h' => r4.length ≤ 3 ∧ (∀ p ∈ r4, p ∈ key) ∧ QI hs w ts (36 * (ts.length - (r.length + 1)) + 12 * (2 - r2.length) + 4 * (2 - r3.length) + (3 - r4.length)) (some (.val (.int i))) (some (.val t.e)) (some (.val g.e)) (some (.val (.tup (key.map .str)))) (some (.val (eD kS (g.fields.map fun c => (c.1, c.2.1))))) t.fields (3 - r4.length) env h') key ⟨kl, fun p hp => hp, pts, w2, c8, c11, t.fields, [], rfl, rfl, pl, pg, st.le (by omega) (by omega), tg.few, by simp, fun c hc => hc, by simp⟩ ?_ ?_
        · rintro n r4 env h' ⟨r4l, mem4, pts, w2, a8, a11, lf, fd, rfl, rfl, pl, pg, st, ll, fdl, lm, fm⟩
          have nm := mem4 n (by simp)
          obtain ⟨c0, hc0, hc1, _⟩ := kf n nm
          simp only [List.length_cons] at r4l st fdl
          have lk : (g.fields.map fun c : Col => (c.1, c.2.1)).lookup n = some c0.2.1 := lookup_ofG (by rw [List.map_map]; exact GO.nd) (List.mem_map.mpr ⟨c0, hc0, by rw [hc1]⟩)
          have lfL : lf.length ≤ L := by have : L = 16777216 := rfl; omega
          have ec1 : ∀ (c : Col) h, opIdx (eCol c) (.int 1) h = .ok (.str c.2.1.s) h := fun c h => ix_t1 _ _ _ _
          have ec0 : ∀ (c : Col) h, opIdx (eCol c) (.int 0) h = .ok (.str c.1) h := fun c h => ix_t0 _ _ _
          refine ⟨_, rfl, ?_⟩
          simp
          rw [comps_pure (p := fun c : Col => c.2.1.s == c0.2.1.s) (f := fun c : Col => eCol c) _ _ (by simpa using lfL) (fun c hc => ⟨_, rfl, by simp [lk, ec1, kS], by simp⟩)]
          generalize hso : lf.filter (fun c : Col => c.2.1.s == c0.2.1.s) = so
          have sol : so.length ≤ 3 := by rw [← hso]; exact Nat.le_trans (List.length_filter_le _ _) ll
          have som : ∀ c ∈ so, c ∈ t.fields := fun c hc => lm c (by rw [← hso] at hc; exact (List.mem_filter.mp hc).1)
          have sps : shps 59 (so.map eCol) = true := shps_all fun x hx => by
            obtain ⟨c, _, rfl⟩ := List.mem_map.mp hx
            simp [eCol]
          simp [sps, filt_emp]
          by_cases he : so = []
          · simp [he]
            exact ⟨by omega, fun p hp => mem4 p (by simp [hp]), pts, w2, _, _, lf, fd, rfl, rfl, pl, pg, st.le (by omega) (by omega), ll, by omega, lm, fm⟩
          · have e0 : so.isEmpty = false := by cases so with
              | nil => exact (he rfl).elim
              | cons a b => rfl
            have l0 : 0 < so.length := by cases so with
              | nil => exact (he rfl).elim
              | cons a b => simp
            have b2 := st.hi
            simp [e0]
            refine D.ok (by omega) l0 (by omega) (by omega) fun x w3 hx s3 => ?_
            have fL : fd.length < L := by have : L = 16777216 := rfl; omega
            have hx' : x < (so.map eCol).length := by simpa using hx
            simp [ix_lst _ hx', ec0, fL]
            rw [comps_pure (p := fun c : Col => !(c.1 == so[x].1)) (f := fun c : Col => eCol c) _ _ (by simpa using lfL) (fun c hc => ⟨_, rfl, by simp [ec0], by simp⟩)]
            simp
            refine ⟨by omega, fun p hp => mem4 p (by simp [hp]), pts, w3, some (.val (.str n)), some (.val (.lst (so.map eCol))), lf.filter (fun c : Col => !(c.1 == so[x].1)), fd ++ [so[x].1], by simp, rfl, pl, pg, (st.trans s3).le (by omega) (by omega), Nat.le_trans (List.length_filter_le _ _) ll, by simp; omega, fun c hc => lm c (List.mem_filter.mp hc).1, fun y hy => ?_⟩
            rcases List.mem_append.mp hy with hy | hy
            · exact fm y hy
            · simp at hy; subst hy
              exact ⟨so[x], som _ (List.getElem_mem _), rfl⟩
        · rintro env h' ⟨_, _, pts, w2, a8, a11, lf, fd, rfl, rfl, pl, pg, st, ll, fdl, lm, fm⟩
          have b2 := st.hi
          simp only [List.length_nil] at st fdl
          have cont : ∀ w3 e8 e9 e10 e11, Stp (36 * (ts.length - (r.length + 1)) + 12 * (2 - r2.length) + 4 * (3 - r3.length)) 0 w w3 → ∀ pts' : List Pt, pts'.length ≤ 4 → (∀ p ∈ pts', PtG ts p) → r3.length ≤ 3 ∧ (∀ p ∈ r3, p ∈ g.keys) ∧ PI hs w ts (36 * (ts.length - (r.length + 1)) + 12 * (2 - r2.length) + 4 * (3 - r3.length)) (some (some (.val (.int i)))) (some (some (.val t.e))) (some (some (.val g.e))) none none
              [some (.val (.ref 0)), some (.val (.tup (ts.map Tb.e))), some (.oL (pts'.map Pt.e)), some (.val (.int i)), some (.val t.e), some (.val g.e), some (.val (.tup (key.map .str))), some (.val (eD kS (g.fields.map fun c => (c.1, c.2.1)))), e8, e9, e10, e11, none, none, none] (hp w3 hs) := fun w3 e8 e9 e10 e11 s3 pts' q1 q2 =>
            ⟨by omega, fun p hp => mem3 p (by simp [hp]), pts', w3, none, none, none, _, _, e8, e9, e10, e11, rfl, rfl, q1, q2, s3⟩
          simp [len_beq]
          by_cases hl : fd.length = key.length
          · simp [hl]
            refine D.ok (m := 3) (by omega) (by omega) (by omega) (by omega) fun x w3 hx s3 => ?_
            simp
            by_cases hx0 : 0 < x
            · by_cases hp4 : pts.length < 4
              · have : ((pts.length : Int) < 4) := by omega
                have pL : pts.length < L := by have : L = 16777216 := rfl; omega
                simp [hx0, this, pL, ixt0, ix0]
                have := cont w3 a8 (some (.val (.lst (lf.map eCol)))) (some (.val (.lst (fd.map .str)))) a11 ((st.trans s3).le (by omega) (by omega)) (pts ++ [⟨t.name, fd, g.name, key⟩]) (by simp; omega) (fun p hp => by
                  rcases List.mem_append.mp hp with hp | hp
                  · exact pg p hp
                  · simp at hp; subst hp
                    exact ⟨t, tm, g, gm, rfl, rfl, km, hl, fm⟩)
                simp at this
                exact this
              · have : ¬ ((pts.length : Int) < 4) := by omega
                simp [hx0, this]
                exact cont w3 _ _ _ _ ((st.trans s3).le (by omega) (by omega)) pts pl pg
            · simp [hx0]
              exact cont w3 _ _ _ _ ((st.trans s3).le (by omega) (by omega)) pts pl pg
          · simp [hl]
            exact cont w2 _ _ _ _ (st.le (by omega) (by omega)) pts pl pg
      · rintro env h' ⟨_, _, pts, w2, c3, c4, c5, c6, c7, c8, c9, c10, c11, rfl, rfl, pl, pg, st⟩
        simp only [List.length_nil] at st
        exact ⟨by omega, fun p hp => mem2 p (by simp [hp]), pts, w2, none, none, _, _, _, _, _, _, _, rfl, rfl, pl, pg, st.le (by omega) (by omega)⟩
    · rintro env h' ⟨_, _, pts, w2, c3, c4, c5, c6, c7, c8, c9, c10, c11, rfl, rfl, pl, pg, st⟩
      simp only [List.length_nil] at st
      exact ⟨by omega, fun x y hp => mem (x, y) (by simp [hp]), pts, w2, _, _, _, _, _, _, _, _, _, rfl, rfl, pl, pg, st.le (by omega) (by omega)⟩
  · rintro env h' ⟨_, _, pts, w2, c3, c4, c5, c6, c7, c8, c9, c10, c11, rfl, rfl, pl, pg, st⟩
    simp
    exact q pts pl pg w2 (st.le (by simp; omega) (by omega))
end
end Pl
end
section
set_option autoImplicit false
set_option linter.all false
set_option maxRecDepth 100000
/-! P9: frames; kinds of an ask by the law. -/
namespace Pl
open Ev K64
structure FrG (a : Nat) (F : Fr) : Prop where
  tb : ∀ i t, F.tabs[i]? = some t → TbG a i t
  ne : 0 < F.tabs.length
  few : F.tabs.length ≤ 3
  pts : ∃ ps : List Pt, F.pts = .tup (ps.map Pt.e) ∧ ps.length ≤ 4 ∧ ∀ p ∈ ps, PtG F.tabs p
theorem FrG.mem {a : Nat} {F : Fr} (g : FrG a F) {t : Tb} (ht : t ∈ F.tabs) : ∃ n, n ≤ 2 ∧ TbG a n t := by
  obtain ⟨i, hi⟩ := List.getElem?_of_mem ht
  have := (List.getElem?_eq_some_iff.mp hi).1
  have := g.few
  exact ⟨i, by omega, g.tb i t hi⟩
theorem FrG.ok {a : Nat} {F : Fr} (g : FrG a F) : FrOk F := ⟨fun t ht => by
  obtain ⟨n, h1, h2⟩ := g.mem ht
  exact h2.ok (by omega)⟩
/-- tables have names of their own -/
theorem FrG.find {a : Nat} {F : Fr} (g : FrG a F) {t : Tb} (ht : t ∈ F.tabs) : F.tabs.find? (fun u => u.name == t.name) = some t := by
  obtain ⟨i, hi⟩ := List.getElem?_of_mem ht
  cases hf : F.tabs.find? (fun u => u.name == t.name) with
  | none =>
    have := List.find?_eq_none.mp hf t ht
    simp at this
  | some u =>
    have h1 := List.mem_of_find?_eq_some hf
    have h2 := List.find?_some hf
    obtain ⟨j, hj⟩ := List.getElem?_of_mem h1
    have e1 := (g.tb i t hi).name
    have e2 := (g.tb j u hj).name
    have h3 : u.name = t.name := by simpa using h2
    rw [e1, e2] at h3
    have := lett_inj h3
    have : i = j := by omega
    subst this
    rw [hi] at hj
    rw [Option.some.inj hj]
section
variable {M : Mo} (H : Has M) (D : Draws M) {k : Nat} {hs : Hh} {w : Wl} {P : EV → Hh → Prop} {X : Nat → Hh → Prop} {F : Fr} {h : Hh}
include H
theorem named2_ok {t : Tb} (hk : 1 ≤ k) (hf : F.tabs.length ≤ L) (ht : F.tabs.find? (fun u => u.name == t.name) = some t) : (M.cx k).callF 36 [F.e, .str t.name] h = .ok t.e h := by
  rw [call_of (H.df 36 f_law_named (by decide) (by decide) rfl) (by omega)]
  refine RW_eq (RW_run rfl ?_)
  have ix0 : ∀ (u : Tb) h, opIdx u.e (.int 0) h = .ok (.str u.name) h := fun u h => ix_t0 _ _ _
  have ixF : ∀ h, opIdx F.e (.int 0) h = .ok (.tup (F.tabs.map Tb.e)) h := fun h => ix_t0 _ _ _
  simp [f_law_named, startE, ixF]
  rw [comps_pure (p := fun u : Tb => u.name == t.name) (f := Tb.e) _ _ (by simpa using hf) (fun c hc => ⟨_, rfl, by simp [ix0], by simp⟩)]
  have : ∃ r, F.tabs.filter (fun u => u.name == t.name) = t :: r := by
    have := List.head?_filter (p := fun u : Tb => u.name == t.name) (l := F.tabs)
    rw [ht] at this
    cases hh : F.tabs.filter (fun u => u.name == t.name) with
    | nil => rw [hh] at this; cases this
    | cons a r => rw [hh] at this; simp at this; subst this; exact ⟨r, rfl⟩
  obtain ⟨r, hr⟩ := this
  simp [hr]
include D
theorem frame_ok (hk : 6 ≤ k) (ha : w.a < 4) (ht : w.t + 150 < TT) (q : ∀ F, FrG w.a F → ∀ w', Stp 150 0 w w' → P F.e (hp w' hs)) : RW ((M.cx k).callF 35 [.ref 0] (hp w hs)) P X := by
  rw [call_of (H.df 35 f_law_frame (by decide) (by decide) rfl) (by omega)]
  refine RW_run rfl ?_
  simp [f_law_frame, startE]
  refine one_lst H D (by omega) (by simp) (by simp) (by omega) fun y hy w1 s1 => ?_
  obtain ⟨m, rfl, hm⟩ : ∃ m : Nat, y = .int m ∧ m ≤ 2 := by
    simp at hy
    rcases hy with rfl | rfl | rfl
    · exact ⟨0, rfl, by omega⟩
    · exact ⟨1, rfl, by omega⟩
    · exact ⟨2, rfl, by omega⟩
  have e1 : small62 (1 + (m : Int)) = true := by unfold small62; simp; omega
  have e2 : (1 + (m : Int)).toNat = m + 1 := by omega
  have e3 := rangeF_eq (m + 1) 0
  have e4 : rangeF 0 (m + 1) = (List.range' 0 (m + 1)).map fun j : Nat => EV.int j := e3
  simp [e1, e2, e4]
  refine RW_comps (fun j : Nat => EV.int j) (fun r acc h' => ∃ (ts : List Tb) (w2 : Wl), acc = ts.map Tb.e ∧ h' = hp w2 hs ∧ r = List.range' ts.length (m + 1 - ts.length) ∧ ts.length ≤ m + 1 ∧ (∀ i t, ts[i]? = some t → TbG w.a i t) ∧ Stp (1 + 10 * ts.length) 0 w w2) _
    ⟨[], w1, rfl, rfl, rfl, by simp, by simp, s1⟩ ?_ ?_
  · rintro j r acc h' ⟨ts, w2, rfl, rfl, er, tl, tg, st⟩
    have lt : ts.length < m + 1 := by
      rcases Nat.lt_or_ge ts.length (m + 1) with z | z
      · exact z
      · rw [Nat.sub_eq_zero_of_le z] at er; cases er
    have sub : m + 1 - ts.length = (m - ts.length) + 1 := by omega
    rw [sub, List.range'_succ, List.cons.injEq] at er
    obtain ⟨rfl, rfl⟩ := er
    have b2 := st.hi
    refine ⟨by simp; have : L = 16777216 := rfl; omega, _, rfl, ?_⟩
    simp
    refine table_ok H D (by omega) (by rw [st.a]; exact ha) (by omega) (by omega) fun t gt w3 s3 => ?_
    refine ⟨ts ++ [t], by simp, w3, rfl, by simp, by simp; omega, fun i u hu => ?_, (st.trans s3).le (by simp; omega) (by omega)⟩
    rcases Nat.lt_or_ge i ts.length with z | z
    · rw [List.getElem?_append_left z] at hu
      exact tg i u hu
    · rw [List.getElem?_append_right z] at hu
      have : i = ts.length := by
        rcases Nat.lt_or_ge ts.length i with y | y
        · rw [List.getElem?_eq_none (by simp; omega)] at hu; cases hu
        · omega
      subst this
      simp at hu
      subst hu
      rw [st.a] at gt
      exact gt
  · rintro acc h' ⟨ts, w2, rfl, rfl, er, tl, tg, st⟩
    have len : ts.length = m + 1 := by
      have := congrArg List.length er
      simp at this
      omega
    have b2 := st.hi
    refine points_ok H D (by omega) (by omega) (fun t ht => ?_) (by omega) fun pts pl pg w3 s3 => ?_
    · obtain ⟨i, hi⟩ := List.getElem?_of_mem ht
      have := (List.getElem?_eq_some_iff.mp hi).1
      rw [st.a]
      exact ⟨i, by omega, tg i t hi⟩
    · exact q ⟨ts, .tup (pts.map Pt.e)⟩ ⟨tg, by show 0 < ts.length; omega, by show ts.length ≤ 3; omega, pts, rfl, pl, pg⟩ w3 ((st.trans s3).le (by omega) (by omega))
end
/-! ### kinds -/
def pr (c : Col) : S × Kd := (c.1, c.2.1)
theorem names_pr (cs : Cols) : (cs.map pr).map (·.1) = cs.map (·.1) := by rw [List.map_map]; rfl
theorem perm_names {ds : List (S × Kd)} {cs : Cols} (p : List.Perm ds (cs.map pr)) : List.Perm (ds.map (·.1)) (cs.map (·.1)) := by
  rw [← names_pr]; exact p.map _
theorem perm_lookup {ds : List (S × Kd)} {cs : Cols} (p : List.Perm ds (cs.map pr)) (hd : (cs.map (·.1)).Nodup) {n : S} {q : Kd × Bool} (h : cs.lookup n = some q) : ds.lookup n = some q.1 := by
  refine lookup_ofG ((perm_names p).nodup_iff.mpr hd) (p.mem_iff.mpr (List.mem_map.mpr ⟨(n, q), lookup_mem h, rfl⟩))
/-- a straight ask's kinds: what the law tells -/
theorem srt_pr (cs : Cols) : List.Perm ((srt cs).map pr) (cs.map pr) := (srt_perm cs).map _
def kdOf (ks : Kds) (m : Sm) : Kd := ((kindIn ks m).map (·.1)).getD .num
theorem shown_map {ks : Kds} : ∀ {ps : List (S × Sm)} {cs : Cols}, shownCs ks ps = some cs → cs.map pr = ps.map (fun p => (p.1, kdOf ks p.2)) ∧ ∀ p ∈ ps, (kindIn ks p.2).isSome = true
  | [], cs, e => by cases e; exact ⟨rfl, by simp⟩
  | p :: r, cs, e => by
    rw [shownCs_cons] at e
    split at e
    · cases hq : kindIn ks p.2 with
      | none => rw [hq] at e; cases e
      | some q =>
        rw [hq] at e
        simp only at e
        cases hr : shownCs ks r with
        | none => rw [hr] at e; cases e
        | some ds =>
          rw [hr] at e
          cases e
          obtain ⟨h1, h2⟩ := shown_map hr
          refine ⟨?_, fun x hx => ?_⟩
          · simp only [List.map_cons, h1, pr, kdOf, hq, Option.map_some, Option.getD_some]
          · rcases List.mem_cons.mp hx with rfl | hx
            · rw [hq]; rfl
            · exact h2 x hx
    · cases e
section
variable {M : Mo} (H : Has M) {F : Fr} {h : Hh}
include H
theorem kinds_ok (hF : FrOk F) (hf : F.tabs.length ≤ L) : ∀ (a : Ak) {k : Nat} {cs : Cols}, rawA F a = some cs → stA a = true → zA a ≤ L → hA a + 2 ≤ k →
    ∃ ds : List (S × Kd), (M.cx k).callF 37 [F.e, a.e] h = .ok (eD kS ds) h ∧ List.Perm ds (cs.map pr)
  | .table n al, k, cs, e, st, hl, hk => by
    unfold rawA at e
    cases ht : F.tabs.find? fun t => t.name == n with
    | none => rw [ht] at e; cases e
    | some t =>
      rw [ht] at e
      obtain ⟨hw, rfl⟩ := guard_some.mp e
      have T := hF.tb t (List.mem_of_find?_eq_some ht)
      have tn : t.name = n := by simpa using List.find?_some ht
      subst tn
      refine ⟨t.fields.map fun c => (al ++ [46] ++ c.1, c.2.1), ?_, by rw [List.map_map]; exact List.Perm.refl _⟩
      rw [call_of (H.df 37 f_law_kinds (by decide) (by decide) rfl) (by omega)]
      refine RW_eq (RW_run rfl ?_)
      have n1 := named2_ok H (h := h) (k := k - 1) (by omega) hf ht
      have ix1 : ∀ h, opIdx t.e (.int 1) h = .ok (.tup (t.fields.map eCol)) h := fun h => ix_t1 _ _ _ _
      have iA1 : ∀ h, opIdx (Ak.table t.name al).e (.int 1) h = .ok (.str t.name) h := fun h => ix_t1 _ _ _ _
      have iA2 : ∀ h, opIdx (Ak.table t.name al).e (.int 2) h = .ok (.str al) h := fun h => ix_t2 _ _ _ _ _
      simp [f_law_kinds, startE, Ak.w, n1, ix1, iA1]
      have la : al.length ≤ 8 := by unfold isWord at hw; simp at hw; exact hw.1.2
      have l1 : al.length + 1 ≤ L := by have : L = 16777216 := rfl; omega
      have := T.few
      rw [comps_map (f := fun c : Col => .tup [.str (al ++ [46] ++ c.1), .str c.2.1.s]) _ _ (by have : L = 16777216 := rfl; simp; omega) (fun c hc => ⟨_, rfl, ?_⟩)]
      · have nd := raw_ok hF (.table t.name al) (cs := t.fields.map fun c => (al ++ [46] ++ c.1, c.2)) (by unfold rawA; rw [ht]; simp [hw])
        have dk := dict_of kS (ds := t.fields.map fun c => (al ++ [46] ++ c.1, c.2.1)) (by have := nd.1; rw [List.map_map] at this ⊢; exact this) h
        rw [List.map_map] at dk
        have dk' : runBi .dict [.lst (t.fields.map fun c => EV.tup [.str (al ++ [46] ++ c.1), .str c.2.1.s])] h = .ok (eD kS (t.fields.map fun c => (al ++ [46] ++ c.1, c.2.1))) h := dk
        simp at dk'
        simp [dk']
      · have lc : c.1.length ≤ 8 := by have := T.words c hc; unfold isWord at this; simp at this; exact this.1.2
        have l2 : al.length + 1 + c.1.length ≤ L := by have : L = 16777216 := rfl; omega
        simp [iA2, l1, l2]
  | .pick a c, k, cs, e, st, hl, hk => by
    have st : (stA a && stC c) = true := st
    unfold hA at hk
    unfold zA at hl
    unfold rawA at e
    cases ha : rawA F a with
    | none => rw [ha] at e; cases e
    | some x =>
      rw [ha] at e
      obtain ⟨_, rfl⟩ := guard_some.mp e
      obtain ⟨ds, h1, h2⟩ := kinds_ok hF hf a (k := k - 1) ha (by simp at st; exact st.1) (by omega) (by omega)
      refine ⟨ds, ?_, h2.trans (srt_pr x).symm⟩
      rw [call_of (H.df 37 f_law_kinds (by decide) (by decide) rfl) (by omega)]
      refine RW_eq (RW_run rfl ?_)
      simp [f_law_kinds, startE, Ak.w, h1]
      rfl
  | .once a, k, cs, e, st, hl, hk => by
    have st : stA a = true := st
    unfold hA at hk
    unfold zA at hl
    unfold rawA at e
    cases ha : rawA F a with
    | none => rw [ha] at e; cases e
    | some x =>
      rw [ha] at e
      cases e
      obtain ⟨ds, h1, h2⟩ := kinds_ok hF hf a (k := k - 1) ha st (by omega) (by omega)
      refine ⟨ds, ?_, h2.trans (srt_pr x).symm⟩
      rw [call_of (H.df 37 f_law_kinds (by decide) (by decide) rfl) (by omega)]
      refine RW_eq (RW_run rfl ?_)
      simp [f_law_kinds, startE, Ak.w, h1]
      rfl
  | .group a ns, k, cs, e, st, hl, hk => by cases st
  | .first a i, k, cs, e, st, hl, hk => by cases st
  | .add a b, k, cs, e, st, hl, hk => by
    have st : (stA a && stA b) = true := st
    unfold hA at hk
    unfold zA at hl
    unfold rawA at e
    cases ha : rawA F a with
    | none => rw [ha] at e; cases e
    | some x =>
      rw [ha] at e
      cases hb : rawA F b with
      | none => rw [hb] at e; cases e
      | some y =>
        rw [hb] at e
        simp only [Option.map_some, Option.bind_some] at e
        obtain ⟨hn, rfl⟩ := guard_some.mp e
        obtain ⟨ds, h1, h2⟩ := kinds_ok hF hf a (k := k - 1) ha (by simp at st; exact st.1) (by omega) (by omega)
        have key : (addCs (srt x) (srt y)).map pr = (srt x).map pr := by
          have hq := eq_of_beq hn
          clear hn
          revert hq
          generalize srt x = u
          generalize srt y = v
          induction u generalizing v with
          | nil => intro _; cases v <;> rfl
          | cons p u ih =>
            cases v with
            | nil => intro z; cases z
            | cons q v =>
              intro z
              simp only [List.map_cons, List.cons.injEq] at z
              simp only [addCs, List.map_cons, ih _ z.2]
              rfl
        refine ⟨ds, ?_, by rw [key]; exact h2.trans (srt_pr x).symm⟩
        rw [call_of (H.df 37 f_law_kinds (by decide) (by decide) rfl) (by omega)]
        refine RW_eq (RW_run rfl ?_)
        simp [f_law_kinds, startE, Ak.w, h1]
        rfl
  | .both w a b c, k, cs, e, st, hl, hk => by
    have st : (straightJ w && (stA a && (stA b && stC c))) = true := st
    unfold hA at hk
    unfold zA at hl
    unfold rawA at e
    cases ha : rawA F a with
    | none => rw [ha] at e; cases e
    | some x =>
      rw [ha] at e
      cases hb : rawA F b with
      | none => rw [hb] at e; cases e
      | some y =>
        rw [hb] at e
        simp only [Option.map_some, Option.bind_some] at e
        obtain ⟨hn, rfl⟩ := guard_some.mp e
        rw [Bool.and_eq_true, nodupK_iff] at hn
        simp at st
        obtain ⟨ds, h1, h2⟩ := kinds_ok hF hf a (k := k - 1) ha st.2.1 (by omega) (by omega)
        obtain ⟨es, h3, h4⟩ := kinds_ok hF hf b (k := k - 1) hb st.2.2.1 (by omega) (by omega)
        have p1 := h2.trans (srt_pr x).symm
        have p2 := h4.trans (srt_pr y).symm
        cases w with
        | left => exact absurd st.1 (by decide)
        | lack => exact absurd st.1 (by decide)
        | half =>
          refine ⟨ds, ?_, p1⟩
          rw [call_of (H.df 37 f_law_kinds (by decide) (by decide) rfl) (by omega)]
          refine RW_eq (RW_run rfl ?_)
          simp [f_law_kinds, startE, Ak.w, Jn.s, h1]
          rfl
        | join =>
          have pp : List.Perm (ds ++ es) ((srt x ++ srt y).map pr) := by rw [List.map_append]; exact p1.append p2
          refine ⟨ds ++ es, ?_, pp⟩
          have nd : ((ds ++ es).map (·.1)).Nodup := (perm_names pp).nodup_iff.mpr hn.1
          have m := dmergeD kS es ds nd
          have l1 := (raw_ok hF a ha).2
          have l2 := (raw_ok hF b hb).2
          have q1 := p1.length_eq
          have q2 := p2.length_eq
          rw [List.length_map, srt_len] at q1 q2
          have q3 : (dK ds).length + (dK es).length ≤ L := by simp [dK]; omega
          rw [call_of (H.df 37 f_law_kinds (by decide) (by decide) rfl) (by omega)]
          refine RW_eq (RW_run rfl ?_)
          simp [f_law_kinds, startE, Ak.w, Jn.s, h1, h3]
          rw [eD]
          simp [q3, m]
          rfl
  | .shw a ps, k, cs, e, st, hl, hk => by
    have st : (stA a && ps.all fun p => told p.2) = true := st
    unfold hA at hk
    unfold zA at hl
    unfold rawA at e
    cases ha : rawA F a with
    | none => rw [ha] at e; cases e
    | some x =>
      rw [ha] at e
      simp only [Option.map_some, Option.bind_some] at e
      split at e
      · cases e
      · cases hd : shownCs (srt x) ps with
        | none => rw [hd] at e; cases e
        | some dc =>
          rw [hd] at e
          obtain ⟨hn, rfl⟩ := guard_some.mp e
          rw [Bool.and_eq_true] at st
          obtain ⟨ds, h1, h2⟩ := kinds_ok hF hf a (k := k - 1) ha st.1 (by omega) (by omega)
          have p1 := h2.trans (srt_pr x).symm
          obtain ⟨m1, m2⟩ := shown_map hd
          have nd := nodupK_iff.mp hn
          rw [← names_pr, m1] at nd
          refine ⟨ps.map (fun p => (p.1, kdOf (srt x) p.2)), ?_, by rw [m1]⟩
          rw [call_of (H.df 37 f_law_kinds (by decide) (by decide) rfl) (by omega)]
          refine RW_eq (RW_run rfl ?_)
          have nx := srt_nd (raw_ok hF a ha).1
          have dk := dict_of kS (ds := ps.map (fun p => (p.1, kdOf (srt x) p.2))) nd h
          rw [List.map_map] at dk
          have dk' : runBi .dict [.lst (ps.map fun p : S × Sm => EV.tup [.str p.1, .str (kdOf (srt x) p.2).s])] h = .ok (eD kS (ps.map (fun p => (p.1, kdOf (srt x) p.2)))) h := dk
          have pl := zPs_len ps
          simp [f_law_kinds, startE, Ak.w, h1]
          rw [comps_map (f := fun p : S × Sm => EV.tup [.str p.1, .str (kdOf (srt x) p.2).s]) _ _ (by simp; omega) (fun p hp => ⟨_, rfl, ?_⟩)]
          · simp [dk']
          · have hs := m2 p hp
            have ht := List.all_eq_true.mp st.2 p hp
            obtain ⟨n, m⟩ := p
            cases m with
            | rek r a b => cases ht
            | col nn =>
              unfold kdOf
              unfold kindIn at hs ⊢
              obtain ⟨q, hq⟩ := Option.isSome_iff_exists.mp hs
              have lk := perm_lookup p1 nx hq
              have ix1 : ∀ h, opIdx (Sm.col nn).e (.int 1) h = .ok (.str nn) h := fun h => ix_t1 _ _ _ _
              simp [Sm.w, ix1, lk, hq, kS]
            | num i =>
              have ix1 : ∀ h, opIdx (Sm.num i).e (.int 1) h = .ok (.int i) h := fun h => ix_t1 _ _ _ _
              simp [Sm.w, ix1, kdOf, kindIn, Kd.s]
            | txt t =>
              have ix1 : ∀ h, opIdx (Sm.txt t).e (.int 1) h = .ok (.str t) h := fun h => ix_t1 _ _ _ _
              unfold kindIn at hs
              cases ht : isText t with
              | false => rw [ht] at hs; cases hs
              | true => simp [Sm.w, ix1, kdOf, kindIn, Kd.s, ht]
            | non kd =>
              have ix1 : ∀ h, opIdx (Sm.non kd).e (.int 1) h = .ok (.str kd.s) h := fun h => ix_t1 _ _ _ _
              simp [Sm.w, ix1, kdOf, kindIn]
end
end Pl
end
section
set_option autoImplicit false
set_option linter.all false
set_option maxRecDepth 100000
/-! P10: drawn sums and likenesses. -/
namespace Pl
open Ev K64
@[simp] theorem keysOf_eD {β : Type} (f : β → EV) (ds : List (S × β)) (h : Hh) : keysOf (eD f ds) h = .ok (ds.map fun p => EV.str p.1) h := by
  unfold eD keysOf dK
  simp [kEV, Function.comp_def]
def leS (a b : S) : Bool := leV (.str a) (.str b)
theorem sort_strs (ns : List S) : ∃ ms : List S, List.Perm ms ns ∧ sortV (ns.map EV.str) = some (ms.map EV.str) := by
  refine ⟨ns.mergeSort leS, List.mergeSort_perm ns leS, ?_⟩
  unfold sortV
  have : (ns.map EV.str).all isSt = true := by
    rw [List.all_eq_true]
    intro x hx
    obtain ⟨c, _, rfl⟩ := List.mem_map.mp hx
    rfl
  rw [this, Bool.true_or, if_pos rfl]
  rw [List.map_mergeSort (r := leS) (s := leV) (f := EV.str) (fun a _ b _ => rfl)]
theorem sorted_eD {β : Type} (f : β → EV) {ds : List (S × β)} (hl : ds.length < 64) : ∃ ms : List S, List.Perm ms (ds.map (·.1)) ∧ ∀ h, runBi .sorted [eD f ds] h = .ok (EV.lst (ms.map EV.str)) h := by
  refine ⟨(ds.map (·.1)).mergeSort leS, List.mergeSort_perm _ leS, fun h => ?_⟩
  have e1 : (dK ds).map kEV = (ds.map (·.1)).map EV.str := by simp [dK, kEV, Function.comp_def]
  show (if decide ((dK ds).length < 64) && ((dK ds).map kEV).all isSt then Res.ok (EV.lst (((dK ds).map kEV).mergeSort leV)) h else .bad) = _
  rw [e1]
  have : ((ds.map (·.1)).map EV.str).all isSt = true := by
    rw [List.all_eq_true]
    intro x hx
    obtain ⟨c, _, rfl⟩ := List.mem_map.mp hx
    rfl
  rw [this, Bool.and_true, if_pos (by simp [dK]; exact hl)]
  rw [← List.map_mergeSort (r := leS) (s := leV) (f := EV.str) (fun a _ b _ => rfl)]
/-- names: new, or a table part's by its number -/
def aliasN (i : Nat) : S := [97 + i / 26, 97 + i % 26]
def NmOk (j : Nat) (n : S) : Prop := n = [110, 101, 119] ∨ ∃ i r, i ≤ j ∧ n = aliasN i ++ 46 :: r ∧ r.length ≤ 4 ∧ isWord r = true
theorem NmOk.mono {j j' : Nat} {n : S} (h : NmOk j n) (hj : j ≤ j') : NmOk j' n := by
  rcases h with h | ⟨i, r, h1, h2⟩
  · exact .inl h
  · exact .inr ⟨i, r, by omega, h2⟩
theorem NmOk.len {j : Nat} {n : S} (h : NmOk j n) : n.length ≤ 7 := by
  rcases h with h | ⟨i, r, h1, h2, h3, _⟩
  · rw [h]; decide
  · rw [h2]; simp [aliasN]; omega
theorem alias_inj {i j : Nat} (h : aliasN i = aliasN j) : i = j := by
  unfold aliasN at h
  simp at h
  omega
theorem NmOk.new {j i : Nat} {r : S} (h : NmOk j (aliasN i ++ 46 :: r)) : i ≤ j := by
  rcases h with h | ⟨i', r', h1, h2, _⟩
  · simp [aliasN] at h
  · simp [aliasN] at h2
    have : aliasN i = aliasN i' := by simp [aliasN, h2.1, h2.2.1]
    rw [alias_inj this]; exact h1
/-- a drawn sum of a kind -/
def SumG (ds : List (S × Kd)) (kd : Kd) : Sm → Prop
  | .col n => (n, kd) ∈ ds
  | .num i => kd = .num ∧ 0 ≤ i ∧ i ≤ 7
  | .txt s => kd = .txt ∧ ∃ c, s = [c] ∧ 97 ≤ c ∧ c ≤ 99
  | .non k => k = kd
  | .rek _ _ _ => False
def Kin (ds : List (S × Kd)) (ks : Kds) : Prop := ∀ n kd, (n, kd) ∈ ds → ∃ m, ks.lookup n = some (kd, m)
def Shrt (ds : List (S × Kd)) : Prop := ∀ p ∈ ds, p.1.length ≤ 7
theorem SumG.told {ds : List (S × Kd)} {kd : Kd} {m : Sm} (h : SumG ds kd m) : told m = true := by cases m <;> first | rfl | exact h.elim
theorem SumG.hS {ds : List (S × Kd)} {kd : Kd} {m : Sm} (h : SumG ds kd m) : hS m = 1 := by cases m <;> first | rfl | exact h.elim
theorem SumG.kind {ds : List (S × Kd)} {kd : Kd} {m : Sm} (h : SumG ds kd m) {ks : Kds} (hk : Kin ds ks) : ∃ b, kindIn ks m = some (kd, b) := by
  cases m with
  | rek => exact h.elim
  | col n => obtain ⟨b, hb⟩ := hk n kd h; exact ⟨b, hb⟩
  | num i => obtain ⟨rfl, _⟩ := h; exact ⟨false, rfl⟩
  | txt s =>
    obtain ⟨rfl, c, rfl, h1, h2⟩ := h
    refine ⟨false, ?_⟩
    unfold kindIn
    have : isText [c] = true := by simp [isText, isPr]; omega
    rw [this]; rfl
  | non k => cases (show k = kd from h); exact ⟨true, rfl⟩
theorem SumG.mono {ds es : List (S × Kd)} {kd : Kd} {m : Sm} (h : SumG ds kd m) (hs : ∀ p ∈ ds, p ∈ es) : SumG es kd m := by
  cases m with
  | col n => exact hs _ h
  | rek => exact h.elim
  | _ => exact h
theorem SumG.rok {ds : List (S × Kd)} {kd : Kd} {m : Sm} (h : SumG ds kd m) : rok m.e = true := by
  cases m with
  | rek => exact h.elim
  | num i =>
    obtain ⟨_, h1, h2⟩ := h
    show (true && ((decide (-1000000000000 < i) && decide (i < 1000000000000)) && true)) = true
    simp; omega
  | _ => rfl
theorem SumG.rsz {ds : List (S × Kd)} {kd : Kd} {m : Sm} (h : SumG ds kd m) (hs : Shrt ds) : rsz m.e ≤ 160 := by
  cases m with
  | rek => exact h.elim
  | col n =>
    have := hs _ h
    unfold Sm.e
    simp [Ev.rsz, rszs]
    simp at this
    omega
  | num i => unfold Sm.e; simp [Ev.rsz, rszs]
  | txt s =>
    obtain ⟨_, c, rfl, _⟩ := h
    unfold Sm.e; simp [Ev.rsz, rszs]
  | non k => unfold Sm.e; cases k <;> simp [Ev.rsz, rszs, Kd.s]
section
variable {M : Mo} (H : Has M) (D : Draws M) {k : Nat} {hs : Hh} {w : Wl} {P : EV → Hh → Prop} {X : Nat → Hh → Prop}
include H D
theorem sum_ok {ds : List (S × Kd)} {kd : Kd} (hk : 3 ≤ k) (nd : (ds.map (·.1)).Nodup) (hl : ds.length < 1000) (ht : w.t + 3 < TT) (q : ∀ m, SumG ds kd m → ∀ w', Stp 3 0 w w' → P m.e (hp w' hs)) : RW ((M.cx k).callF 38 [.ref 0, eD kS ds, .str kd.s] (hp w hs)) P X := by
  rw [call_of (H.df 38 f_law_sum (by decide) (by decide) rfl) (by omega)]
  refine RW_run rfl ?_
  simp [f_law_sum, startE]
  rw [comps_pure (p := fun p : S × Kd => p.2 == kd) (f := fun p : S × Kd => .str p.1) _ _ (by have : L = 16777216 := rfl; simp; omega) (fun p hp => ⟨_, rfl, by
    have := lookup_ofG nd (show (p.1, p.2) ∈ ds from hp)
    simp [this, kS, Kd.s_inj], by simp⟩)]
  obtain ⟨ms, mp, me⟩ := sort_strs ((ds.filter fun p => p.2 == kd).map (·.1))
  rw [List.map_map] at me
  have me' : sortV ((ds.filter fun p => p.2 == kd).map fun p => EV.str p.1) = some (ms.map .str) := me
  have mm : ∀ n ∈ ms, (n, kd) ∈ ds := fun n hn => by
    obtain ⟨p, hp, rfl⟩ := List.mem_map.mp (mp.mem_iff.mp hn)
    obtain ⟨h1, h2⟩ := List.mem_filter.mp hp
    have : p.2 = kd := by simpa using h2
    rw [← this]; exact h1
  have ml : ms.length < 1000 := by
    have := mp.length_eq
    have := List.length_filter_le (fun p : S × Kd => p.2 == kd) ds
    simp at *
    omega
  have sh : shps 59 (ms.map .str) = true := shps_all fun x hx => by
    obtain ⟨p, hp, rfl⟩ := List.mem_map.mp hx
    simp
  simp [me']
  refine D.ok (m := 8) (by omega) (by omega) (by omega) (by omega) fun way w1 hw s1 => ?_
  have b1 := s1.hi
  simp [sh, filt_emp]
  have rest : ∀ (h6 : (!ms.isEmpty && decide (way < 6)) = false), SW
      (exSs (M.cx (k - 1)) (match f_law_sum.body with
        | .cons _ (.cons _ r) => r
        | r => r) [some (.val (.ref 0)), some (.val (eD kS ds)), some (.val (.str kd.s)), some (.val (.lst (ms.map .str))), some (.val (.int way)), none] (hp w1 hs)) (fun _ h => f_law_sum.fresh = false ∧ P .non h) P X := by
    intro h6
    have fin : ∀ w2, Stp 2 0 w w2 → SW (exSs (M.cx (k - 1)) (match f_law_sum.body with
        | .cons _ (.cons _ (.cons _ r)) => r
        | r => r) [some (.val (.ref 0)), some (.val (eD kS ds)), some (.val (.str kd.s)), some (.val (.lst (ms.map .str))), some (.val (.int way)), none] (hp w2 hs)) (fun _ h => f_law_sum.fresh = false ∧ P .non h) P X := by
      intro w2 s2
      have b2 := s2.hi
      cases kd with
      | num =>
        simp [f_law_sum, Kd.s]
        refine one_lst H D (by omega) (by simp) (by simp) (by omega) fun y hy w3 s3 => ?_
        obtain ⟨i, rfl, h1, h2⟩ : ∃ i : Int, y = .int i ∧ 0 ≤ i ∧ i ≤ 7 := by
          simp at hy
          rcases hy with rfl | rfl | rfl | rfl
          · exact ⟨0, rfl, by omega, by omega⟩
          · exact ⟨1, rfl, by omega, by omega⟩
          · exact ⟨2, rfl, by omega, by omega⟩
          · exact ⟨7, rfl, by omega, by omega⟩
        exact q (.num i) ⟨rfl, h1, h2⟩ w3 ((s2.trans s3).le (by omega) (by omega))
      | txt =>
        simp [f_law_sum, Kd.s]
        refine one_lst H D (by omega) (by simp) (by simp) (by omega) fun y hy w3 s3 => ?_
        obtain ⟨c, rfl, h1, h2⟩ : ∃ c : Nat, y = .str [c] ∧ 97 ≤ c ∧ c ≤ 99 := by
          simp at hy
          rcases hy with rfl | rfl | rfl
          · exact ⟨97, rfl, by omega, by omega⟩
          · exact ⟨98, rfl, by omega, by omega⟩
          · exact ⟨99, rfl, by omega, by omega⟩
        exact q (.txt [c]) ⟨rfl, c, rfl, h1, h2⟩ w3 ((s2.trans s3).le (by omega) (by omega))
    by_cases h7 : way = 7
    · subst h7
      simp [f_law_sum]
      refine D.ok (m := 3) (by omega) (by omega) (by omega) (by omega) fun r w2 hr s2 => ?_
      by_cases hr0 : r = 0
      · subst hr0
        simp
        exact q (.non kd) rfl w2 ((s1.trans s2).le (by omega) (by omega))
      · have hr1 : ((r : Int) == 0) = false := by simp; omega
        simp [hr1]
        have := fin w2 ((s1.trans s2).le (by omega) (by omega))
        simp [f_law_sum] at this
        exact this
    · have : ((way : Int) == 7) = false := by simp; omega
      simp [f_law_sum, this]
      have := fin w1 (s1.le (by omega) (by omega))
      simp [f_law_sum] at this
      exact this
  simp [f_law_sum] at rest
  cases he : ms with
  | nil =>
    rw [he] at rest
    simp at rest ⊢
    exact rest
  | cons m0 mr =>
    rw [← he]
    have e0 : ms.isEmpty = false := by rw [he]; rfl
    simp [e0]
    by_cases h6 : way < 6
    · have : (way : Int) < 6 := by omega
      simp [this]
      refine one_lst H D (by omega) (by rw [he]; simp) (by simp; omega) (by omega) fun y hy w2 s2 => ?_
      obtain ⟨n, hn, rfl⟩ := List.mem_map.mp hy
      exact q (.col n) (mm n hn) w2 ((s1.trans s2).le (by omega) (by omega))
    · have : ¬ (way : Int) < 6 := by omega
      simp [this]
      exact rest (fun _ => by omega)
theorem is_ok {ds es : List (S × Kd)} (hk : 4 ≤ k) (nd : (ds.map (·.1)).Nodup) (ne : (es.map (·.1)).Nodup) (hl : ds.length < 64) (h0 : ds ≠ []) (el : es.length < 64) (ht : w.t + 8 < TT)
    (q : ∀ m1 m2 kd, SumG ds kd m1 → (SumG ds kd m2 ∨ SumG es kd m2) → ∀ w', Stp 8 0 w w' → P (Cd.is m1 m2).e (hp w' hs)) : RW ((M.cx k).callF 39 [.ref 0, eD kS ds, eD kS es] (hp w hs)) P X := by
  rw [call_of (H.df 39 f_law_is (by decide) (by decide) rfl) (by omega)]
  refine RW_run rfl ?_
  obtain ⟨ms, mp, me⟩ := sorted_eD kS hl
  have mlen : ms.length = ds.length := by rw [mp.length_eq, List.length_map]
  have dpos : 0 < ds.length := by
    cases ds with
    | nil => exact (h0 rfl).elim
    | cons a r => simp
  simp [f_law_is, startE, me]
  refine one_lst H D (by omega) (by simp; omega) (by simp; omega) (by omega) fun y hy w1 s1 => ?_
  obtain ⟨n, hn, rfl⟩ := List.mem_map.mp hy
  obtain ⟨⟨n', kd⟩, hp', e1⟩ := List.mem_map.mp (mp.mem_iff.mp hn)
  simp at e1; subst e1
  have lk := lookup_ofG nd hp'
  have b1 := s1.hi
  simp [lk, kS]
  refine D.ok (m := 12) (by omega) (by omega) (by omega) (by omega) fun r w2 hr s2 => ?_
  have b2 := s2.hi
  have tail : ∀ (m1 : Sm) (w3 : Wl), SumG ds kd m1 → Stp 5 0 w w3 → SW (exSs (M.cx (k - 1)) (match f_law_is.body with
      | .cons _ (.cons _ (.cons _ r)) => r
      | r => r) [some (.val (.ref 0)), some (.val (eD kS ds)), some (.val (eD kS es)), some (.val (.str n')), some (.val (.str kd.s)), some (.val m1.e)] (hp w3 hs)) (fun _ h => f_law_is.fresh = false ∧ P .non h) P X := by
    intro m1 w3 g1 s3
    have b3 := s3.hi
    simp [f_law_is]
    rw [comps_map (f := fun p : S × Kd => .str p.2.s) _ _ (by have : L = 16777216 := rfl; simp; omega) (fun p hp => ⟨_, rfl, by
      have := lookup_ofG ne (show (p.1, p.2) ∈ es from hp)
      simp [this, kS]⟩)]
    have sh : shps 60 (es.map fun p : S × Kd => EV.str p.2.s) = true := shps_all fun x hx => by
      obtain ⟨p, hp, rfl⟩ := List.mem_map.mp hx
      simp
    simp only [List.nil_append, Res.bind_ok, RW_ok, RW_bind, opIn_val, in_lst, shp_str, sh, Bool.and_self, if_true]
    cases (es.map fun p : S × Kd => EV.str p.2.s).any fun z => eqv z (.str kd.s) with
    | true =>
      simp
      refine sum_ok H D (by omega) ne (by omega) (by omega) fun m2 g2 w4 s4 => ?_
      exact q m1 m2 kd g1 (.inr g2) w4 ((s3.trans s4).le (by omega) (by omega))
    | false =>
      simp
      refine sum_ok H D (by omega) nd (by omega) (by omega) fun m2 g2 w4 s4 => ?_
      exact q m1 m2 kd g1 (.inl g2) w4 ((s3.trans s4).le (by omega) (by omega))
  simp only [f_law_is] at tail
  by_cases hr0 : 0 < r
  · simp [hr0]
    have := tail (.col n') w2 hp' ((s1.trans s2).le (by omega) (by omega))
    simp [Sm.e] at this
    exact this
  · simp [hr0]
    refine sum_ok H D (by omega) nd (by omega) (by omega) fun m1 g1 w3 s3 => ?_
    have := tail m1 w3 g1 (((s1.trans s2).trans s3).le (by omega) (by omega))
    simp at this
    exact this
end
end Pl
end
section
set_option autoImplicit false
set_option linter.all false
set_option maxRecDepth 100000
/-! P11: drawn conditions, drawn table parts. -/
namespace Pl
open Ev K64
def Known (j : Nat) (ks : Kds) : Prop := ∀ p ∈ ks, NmOk j p.1
structure CdG (F : Fr) (j : Nat) (ds : List (S × Kd)) (c : Cd) (hh zz rr : Nat) : Prop where
  ok : ∀ ks, Kin ds ks → Known j ks → okC F c ks = true
  st : stC c = true
  h : hC c ≤ hh
  z : zC c ≤ zz
  r : rsz c.e ≤ rr
  k : rok c.e = true
structure AkG (F : Fr) (j : Nat) (a : Ak) (cs : Cols) (hh zz rr ll : Nat) : Prop where
  cols : colsA F a = some cs
  st : stA a = true
  h : hA a ≤ hh
  z : zA a ≤ zz
  r : rsz a.e ≤ rr
  k : rok a.e = true
  l : cs.length ≤ ll
  ne : cs ≠ []
  nm : Known j cs
theorem CdG.le {F : Fr} {j : Nat} {ds : List (S × Kd)} {c : Cd} {hh zz rr hh' zz' rr' : Nat} (g : CdG F j ds c hh zz rr) (h1 : hh ≤ hh') (h2 : zz ≤ zz') (h3 : rr ≤ rr') : CdG F j ds c hh' zz' rr' :=
  ⟨g.ok, g.st, Nat.le_trans g.h h1, Nat.le_trans g.z h2, Nat.le_trans g.r h3, g.k⟩
theorem AkG.le {F : Fr} {j j' : Nat} {a : Ak} {cs : Cols} {hh zz rr ll hh' zz' rr' ll' : Nat} (g : AkG F j a cs hh zz rr ll) (hj : j ≤ j') (h1 : hh ≤ hh') (h2 : zz ≤ zz') (h3 : rr ≤ rr') (h4 : ll ≤ ll') : AkG F j' a cs hh' zz' rr' ll' :=
  ⟨g.cols, g.st, Nat.le_trans g.h h1, Nat.le_trans g.z h2, Nat.le_trans g.r h3, g.k, Nat.le_trans g.l h4, g.ne, fun p hp => (g.nm p hp).mono hj⟩
theorem lookup_app {is ks : Kds} {n : S} : (is ++ ks).lookup n = (is.lookup n).or (ks.lookup n) := by
  induction is with
  | nil => simp
  | cons p r ih =>
    obtain ⟨m, q⟩ := p
    rw [List.cons_append, List.lookup_cons, List.lookup_cons]
    cases n == m with
    | true => simp
    | false => exact ih
theorem kin_perm {ds : List (S × Kd)} {cs : Cols} (p : List.Perm ds (cs.map pr)) (hd : (cs.map (·.1)).Nodup) : Kin ds cs := fun n kd h => by
  obtain ⟨c, hc, e⟩ := List.mem_map.mp (p.mem_iff.mp h)
  obtain ⟨nm, k', m⟩ := c
  cases e
  exact ⟨m, lookup_of hd hc⟩
theorem is_good {F : Fr} {j : Nat} {ds : List (S × Kd)} {m1 m2 : Sm} {kd : Kd} (g1 : SumG ds kd m1) (g2 : SumG ds kd m2) (hs : Shrt ds) : CdG F j ds (.is m1 m2) 2 0 400 where
  ok := fun ks kin _ => by
    obtain ⟨b1, e1⟩ := g1.kind kin
    obtain ⟨b2, e2⟩ := g2.kind kin
    unfold okC
    rw [e1, e2]
    simp
  st := by
    show (told m1 && told m2) = true
    rw [g1.told, g2.told]; rfl
  h := by
    show 1 + max (hS m1) (hS m2) ≤ 2
    rw [g1.hS, g2.hS]; decide
  z := Nat.le_refl _
  r := by
    have r1 := g1.rsz hs
    have r2 := g2.rsz hs
    show rszs _ + 8 ≤ _
    simp [rszs, Ev.rsz]
    omega
  k := by
    show roks _ = true
    simp [roks, rok, g1.rok, g2.rok]
theorem sub_mem {ds es : List (S × Kd)} : ∀ p ∈ ds, p ∈ ds ++ es := fun p h => List.mem_append_left _ h
theorem sub_mem' {ds es : List (S × Kd)} : ∀ p ∈ es, p ∈ ds ++ es := fun p h => List.mem_append_right _ h
theorem yes_good {F : Fr} {j : Nat} {ds : List (S × Kd)} : CdG F j ds .yes 1 0 50 where
  ok := fun ks _ _ => rfl
  st := rfl
  h := by decide
  z := by decide
  r := by decide
  k := rfl
theorem both_good {F : Fr} {j : Nat} {ds : List (S × Kd)} {c d : Cd} {h1 z1 r1 h2 z2 r2 : Nat} (g1 : CdG F j ds c h1 z1 r1) (g2 : CdG F j ds d h2 z2 r2) : CdG F j ds (.both c d) (1 + max h1 h2) (z1 + z2) (r1 + r2 + 70) where
  ok := fun ks q1 q2 => by
    show (okC F c ks && okC F d ks) = true
    rw [g1.ok ks q1 q2, g2.ok ks q1 q2]; rfl
  st := by
    show (stC c && stC d) = true
    rw [g1.st, g2.st]; rfl
  h := by
    have := g1.h
    have := g2.h
    show 1 + max (hC c) (hC d) ≤ _
    omega
  z := by
    have := g1.z
    have := g2.z
    show zC c + zC d ≤ _
    omega
  r := by
    have := g1.r
    have := g2.r
    show rszs _ + 8 ≤ _
    simp [rszs, Ev.rsz]
    omega
  k := by
    show roks _ = true
    simp [roks, rok, g1.k, g2.k]
section
variable {M : Mo} (H : Has M) (D : Draws M) {k : Nat} {hs : Hh} {w : Wl} {P : EV → Hh → Prop} {X : Nat → Hh → Prop} {F : Fr}
include H D
theorem cond0_ok {ds : List (S × Kd)} {j : Nat} (hk : 6 ≤ k) (nd : (ds.map (·.1)).Nodup) (hl : ds.length < 64) (h0 : ds ≠ []) (sh : Shrt ds) (ht : w.t + 10 < TT) (q : ∀ c, CdG F j ds c 3 0 400 → ∀ w', Stp 10 0 w w' → P c.e (hp w' hs)) :
    RW ((M.cx k).callF 40 [.ref 0, F.e, eD kS ds, .int 0] (hp w hs)) P X := by
  rw [call_of (H.df 40 f_law_straight_cond (by decide) (by decide) rfl) (by omega)]
  refine RW_run rfl ?_
  simp [f_law_straight_cond, startE]
  refine D.ok (m := 9) (by omega) (by omega) (by omega) (by omega) fun way w1 hw s1 => ?_
  have b1 := s1.hi
  by_cases h1 : way = 0
  · subst h1
    simp
    exact q .yes (yes_good.le (by omega) (by omega) (by omega)) w1 (s1.le (by omega) (by omega))
  · have z1 : ((way : Int) == 0) = false := by simp; omega
    simp [z1]
    by_cases h2 : way < 3
    · have z2 : (way : Int) < 3 := by omega
      obtain ⟨ms, mp, me⟩ := sorted_eD kS hl
      have mlen : ms.length = ds.length := by rw [mp.length_eq, List.length_map]
      have dpos : 0 < ds.length := by
        cases ds with
        | nil => exact (h0 rfl).elim
        | cons a r => simp
      simp [z2, me]
      refine one_lst H D (by omega) (by simp; omega) (by simp; omega) (by omega) fun y hy w2 s2 => ?_
      obtain ⟨n, hn, rfl⟩ := List.mem_map.mp hy
      obtain ⟨⟨n', kd⟩, hp', e1⟩ := List.mem_map.mp (mp.mem_iff.mp hn)
      simp at e1; subst e1
      have b2 := s2.hi
      have lk := lookup_ofG nd hp'
      simp [lk, kS]
      refine sum_ok H D (by omega) nd (by omega) (by omega) fun m g w3 s3 => ?_
      have b3 := s3.hi
      have s123 := (s1.trans s2).trans s3
      have gi : CdG F j ds (.isn m) 2 0 300 := {
        ok := fun ks kin _ => by
          obtain ⟨b, e⟩ := g.kind kin
          show (kindIn ks m).isSome = true
          rw [e]; rfl
        st := g.told
        h := by
          show 1 + hS m ≤ 2
          rw [g.hS]; decide
        z := Nat.le_refl _
        r := by
          have := g.rsz sh
          show rszs _ + 8 ≤ _
          simp [rszs, Ev.rsz]
          omega
        k := by
          show roks _ = true
          simp [roks, rok, g.rok] }
      have gn : CdG F j ds (.not (.isn m)) 3 0 400 := {
        ok := fun ks kin kn => gi.ok ks kin kn
        st := g.told
        h := by
          show 1 + (1 + hS m) ≤ 3
          rw [g.hS]; decide
        z := Nat.le_refl _
        r := by
          have := gi.r
          show rszs _ + 8 ≤ _
          simp [rszs, Ev.rsz]
          omega
        k := by
          have := gi.k
          show roks _ = true
          simp [roks, rok, this] }
      have p1 := q (.isn m) (gi.le (by omega) (by omega) (by omega))
      have p2 := q (.not (.isn m)) gn
      simp only [Cd.e] at p1 p2
      by_cases h3 : way = 2
      · subst h3
        simp
        refine D.ok (m := 3) (by omega) (by omega) (by omega) (by omega) fun r w4 hr s4 => ?_
        by_cases hr0 : r = 0
        · subst hr0
          simp
          exact p1 w4 ((s123.trans s4).le (by omega) (by omega))
        · have hr1 : ((r : Int) == 0) = false := by simp; omega
          simp [hr1]
          exact p2 w4 ((s123.trans s4).le (by omega) (by omega))
      · have z3 : ((way : Int) == 2) = false := by simp; omega
        simp [z3]
        exact p2 w3 (s123.le (by omega) (by omega))
    · have z2 : ¬ (way : Int) < 3 := by omega
      have e : decide ((way : Int) < 3) = false := by simp [z2]
      simp [e]
      have fin : SW (exSs (M.cx (k - 1)) (match f_law_straight_cond.body with
          | .cons _ (.cons _ (.cons _ (.cons _ (.cons _ r)))) => r
          | r => r) [some (.val (.ref 0)), some (.val F.e), some (.val (eD kS ds)), some (.val (.int 0)), some (.val (.int way)), none, none, none, none] (hp w1 hs)) (fun _ h => f_law_straight_cond.fresh = false ∧ P .non h) P X := by
        simp [f_law_straight_cond]
        refine is_ok H D (by omega) nd nd hl h0 hl (by omega) fun m1 m2 kd g1 g2 w2 s2 => ?_
        have g2 : SumG ds kd m2 := by rcases g2 with g | g <;> exact g
        exact q (.is m1 m2) ((is_good g1 g2 sh).le (by omega) (by omega) (by omega)) w2 ((s1.trans s2).le (by omega) (by omega))
      simp [f_law_straight_cond] at fin
      cases h3 : ((way : Int) == 3) <;> simp
      · cases h4 : ((way : Int) == 4) <;> simp <;> exact fin
      · cases h4 : ((way : Int) == 4) <;> simp <;> exact fin
end
theorem az_ix {i : Nat} (h : Hh) (hi : i < 26) : opIdx (.str [97, 98, 99, 100, 101, 102, 103, 104, 105, 106, 107, 108, 109, 110, 111, 112, 113, 114, 115, 116, 117, 118, 119, 120, 121, 122]) (.int i) h = .ok (.str [97 + i]) h := by
  rw [ix_str _ (by simpa using hi)]
  have : ∀ n, (h : n < 26) → ([97, 98, 99, 100, 101, 102, 103, 104, 105, 106, 107, 108, 109, 110, 111, 112, 113, 114, 115, 116, 117, 118, 119, 120, 121, 122] : List Nat)[n] = 97 + n := by decide
  rw [this i hi]
theorem alias_word {i : Nat} (hi : i < 676) : isWord (aliasN i) = true := by
  unfold isWord aliasN
  have h1 : isLet (97 + i / 26) = true := by unfold isLet; simp; omega
  have h2 : isLet (97 + i % 26) = true := by unfold isLet; simp; omega
  simp [h1, h2]
/-- the columns of a table part that is new -/
def tabCs (t : Tb) (j : Nat) : Cols := srt (t.fields.map fun c => (aliasN j ++ [46] ++ c.1, c.2))
theorem tab_good {F : Fr} {a : Nat} (g : FrG a F) {t : Tb} (ht : t ∈ F.tabs) {j : Nat} (hj : j < 676) : AkG F j (.table t.name (aliasN j)) (tabCs t j) 1 16 200 3 ∧ ∀ p ∈ tabCs t j, ∃ r, p.1 = aliasN j ++ 46 :: r := by
  obtain ⟨n, hn, tg⟩ := g.mem ht
  have T := tg.ok (by omega)
  have mem : ∀ p ∈ tabCs t j, ∃ r, p.1 = aliasN j ++ 46 :: r ∧ r.length ≤ 4 ∧ isWord r = true := fun p hp => by
    obtain ⟨c, hc, rfl⟩ := List.mem_map.mp ((srt_perm _).mem_iff.mp hp)
    obtain ⟨i, hi⟩ := List.getElem?_of_mem hc
    refine ⟨c.1, by simp, ?_, T.words c hc⟩
    rw [tg.flds i c hi]
    exact lett_len _ _
  refine ⟨⟨?_, rfl, Nat.le_refl _, Nat.le_refl _, ?_, rfl, ?_, ?_, fun p hp => ?_⟩, fun p hp => let ⟨r, h1, _⟩ := mem p hp; ⟨r, h1⟩⟩
  · unfold colsA rawA
    rw [g.find ht]
    simp [alias_word hj, tabCs]
  · have l := lett_len a (4 * n + 3)
    rw [← tg.name] at l
    unfold Ak.e
    simp [Ev.rsz, rszs, aliasN]
    omega
  · unfold tabCs
    rw [srt_len, List.length_map]
    exact tg.few
  · intro z
    have := congrArg List.length z
    unfold tabCs at this
    rw [srt_len, List.length_map] at this
    obtain ⟨nm, kd, r, e⟩ := tg.ne
    rw [e] at this
    cases this
  · obtain ⟨r, h1, h2, h3⟩ := mem p hp
    exact .inr ⟨j, r, Nat.le_refl _, h1, h2, h3⟩
section
variable {M : Mo} (H : Has M) (D : Draws M) {k : Nat} {hs : Hh} {w : Wl} {P : EV → Hh → Prop} {X : Nat → Hh → Prop} {F : Fr}
include H D
theorem tab_tail {a d : Nat} (hk : 3 ≤ k) (g : FrG a F) (ht : w.t + 1 < TT) (hc : w.c < 640) (q : ∀ t ∈ F.tabs, ∀ w', Stp 1 1 w w' → w'.c = w.c + 1 → P (Ak.table t.name (aliasN (w.c + 1))).e (hp w' hs)) :
    SW (exSs (M.cx (k - 1)) (match f_law_straight.body with
      | .cons _ r => r
      | r => r) [some (.val (.ref 0)), some (.val F.e), some (.val (.int d)), some (.val (.int 0)), none, none, none, none, none, none, none, none, none, none] (hp w hs)) (fun _ h => f_law_straight.fresh = false ∧ P .non h) P X := by
  have ixF : ∀ h, opIdx F.e (.int 0) h = .ok (.tup (F.tabs.map Tb.e)) h := fun h => ix_t0 _ _ _
  have ix0 : ∀ (u : Tb) h, opIdx u.e (.int 0) h = .ok (.str u.name) h := fun u h => ix_t0 _ _ _
  have := g.few
  have := g.ne
  simp [f_law_straight, ixF]
  refine one_tup H D (by omega) (by simpa using g.ne) (by simp; omega) (by show w.t < TT; omega) fun y hy w1 s1 => ?_
  obtain ⟨t, ht', rfl⟩ := List.mem_map.mp hy
  have c1 : w1.c = w.c + 1 := by
    have h1 := s1.cl
    have h2 := s1.ch
    simp at h1 h2
    omega
  have e1 : ((w1.c : Int) / 26) = ((w1.c / 26 : Nat) : Int) := by omega
  have e2 : ((w1.c : Int) % 26) = ((w1.c % 26 : Nat) : Int) := by omega
  simp [ix0]
  rw [e1, az_ix _ (by omega)]
  simp
  rw [e2, az_ix _ (by omega)]
  simp
  rw [c1]
  have h1 := s1.lo
  have h2 := s1.hi
  have h3 := s1.a
  have h4 := s1.cl
  have h5 := s1.ch
  simp at h1 h2 h3 h4 h5
  exact q t ht' w1 ⟨h1, by omega, h3, by omega, by omega⟩ c1
theorem tab_ok {a : Nat} (hk : 3 ≤ k) (g : FrG a F) (ht : w.t + 1 < TT) (hc : w.c < 640) (q : ∀ t ∈ F.tabs, ∀ w', Stp 1 1 w w' → w'.c = w.c + 1 → P (Ak.table t.name (aliasN (w.c + 1))).e (hp w' hs)) :
    RW ((M.cx k).callF 41 [.ref 0, F.e, .int 0] (hp w hs)) P X := by
  rw [call_of (H.df 41 f_law_straight (by decide) (by decide) rfl) (by omega)]
  refine RW_run rfl ?_
  have := tab_tail H D (d := 0) (X := X) hk g ht hc q
  unfold f_law_straight at this ⊢
  rw [exs_cons, SW_thn]
  simp only [startE, ex_asg]
  simp at this ⊢
  exact this
end
theorem som_good {F : Fr} {j : Nat} {ds mine : List (S × Kd)} {a : Ak} {cs : Cols} {c : Cd} {h1 z1 r1 l1 h2 z2 r2 : Nat} (g : AkG F (j + 1) a cs h1 z1 r1 l1) (pm : List.Perm mine (cs.map pr)) (nd : (cs.map (·.1)).Nodup) (new : ∀ p ∈ cs, ∃ r, p.1 = aliasN (j + 1) ++ 46 :: r)
    (gc : CdG F (j + 1) (ds ++ mine) c h2 z2 r2) : CdG F j ds (.som a c) (1 + max h1 h2) (z1 + z2) (r1 + r2 + 70) where
  ok := fun ks kin kn => by
    have nokey : ∀ n, n ∈ ks.map (·.1) → cs.lookup n = none := fun n hn => by
      cases e : cs.lookup n with
      | none => rfl
      | some q =>
        obtain ⟨r, hr⟩ := new (n, q) (lookup_mem e)
        obtain ⟨p, hp, rfl⟩ := List.mem_map.mp hn
        have := kn p hp
        simp only at hr
        rw [hr] at this
        have := this.new
        omega
    show (match (rawA F a).map srt with
      | some is => is.all (fun p => (ks.lookup p.1).isNone) && okC F c (is ++ ks)
      | none => false) = true
    have hc := g.cols
    unfold colsA at hc
    rw [hc]
    simp only [Bool.and_eq_true, List.all_eq_true]
    refine ⟨fun p hp => ?_, gc.ok _ (fun n kd hn => ?_) fun p hp => ?_⟩
    · rw [lookup_none, decide_eq_true_eq]
      intro hm
      have := nokey p.1 hm
      rw [lookup_of nd (show (p.1, p.2) ∈ cs from hp)] at this
      cases this
    · rcases List.mem_append.mp hn with hn | hn
      · obtain ⟨m, hm⟩ := kin n kd hn
        refine ⟨m, ?_⟩
        rw [lookup_app, nokey n (List.mem_map.mpr ⟨_, lookup_mem hm, rfl⟩)]
        exact hm
      · obtain ⟨m, hm⟩ := kin_perm pm nd n kd hn
        refine ⟨m, ?_⟩
        rw [lookup_app, hm]; rfl
    · rcases List.mem_append.mp hp with hp | hp
      · exact g.nm p hp
      · exact (kn p hp).mono (by omega)
  st := by
    show (stA a && stC c) = true
    rw [g.st, gc.st]; rfl
  h := by
    have := g.h
    have := gc.h
    show 1 + max (hA a) (hC c) ≤ _
    omega
  z := by
    have := g.z
    have := gc.z
    show zA a + zC c ≤ _
    omega
  r := by
    have := g.r
    have := gc.r
    show rszs _ + 8 ≤ _
    simp [rszs, Ev.rsz]
    omega
  k := by
    show roks _ = true
    simp [roks, rok, g.k, gc.k]
theorem dict_two {ds es : List (S × Kd)} (h : ((ds ++ es).map (·.1)).Nodup) (hh : Hh) : runBi .dict [.lst ((ds.map fun p => EV.tup [.str p.1, kS p.2]) ++ es.map fun p => EV.tup [.str p.1, kS p.2])] hh = .ok (eD kS (ds ++ es)) hh := by
  have := dict_of kS h hh
  rw [List.map_append] at this
  exact this
theorem known_shrt {ds : List (S × Kd)} {cs : Cols} {j : Nat} (p : List.Perm ds (cs.map pr)) (kn : Known j cs) : Shrt ds := fun q hq => by
  obtain ⟨c, hc, rfl⟩ := List.mem_map.mp (p.mem_iff.mp hq)
  exact (kn c hc).len
section
variable {M : Mo} (H : Has M) (D : Draws M) {k : Nat} {hs : Hh} {w : Wl} {P : EV → Hh → Prop} {X : Nat → Hh → Prop} {F : Fr}
include H D
theorem cond1_ok {a : Nat} (gF : FrG a F) {ds : List (S × Kd)} {ks0 : Cols} (hk : 12 ≤ k) (pm0 : List.Perm ds (ks0.map pr)) (nd0 : (ks0.map (·.1)).Nodup) (kn0 : Known w.c ks0) (hl : ds.length < 60) (h0 : ds ≠ []) (ht : w.t + 40 < TT) (hc : w.c < 640)
    (q : ∀ c, CdG F w.c ds c 5 16 1300 → ∀ w', Stp 40 1 w w' → P c.e (hp w' hs)) : RW ((M.cx k).callF 40 [.ref 0, F.e, eD kS ds, .int 1] (hp w hs)) P X := by
  have nd : (ds.map (·.1)).Nodup := (perm_names pm0).nodup_iff.mpr nd0
  have sh := known_shrt pm0 kn0
  have fL : F.tabs.length ≤ L := by have := gF.few; have : L = 16777216 := rfl; omega
  rw [call_of (H.df 40 f_law_straight_cond (by decide) (by decide) rfl) (by omega)]
  refine RW_run rfl ?_
  simp [f_law_straight_cond, startE]
  refine D.ok (m := 9) (by omega) (by omega) (by omega) (by omega) fun way w1 hw s1 => ?_
  have b1 := s1.hi
  have c1 := s1.ch
  have c1' := s1.cl
  have cc : w1.c = w.c := by omega
  by_cases h1 : way = 0
  · subst h1
    simp
    exact q .yes (yes_good.le (by omega) (by omega) (by omega)) w1 (s1.le (by omega) (by omega))
  · have z1 : ((way : Int) == 0) = false := by simp; omega
    simp [z1]
    by_cases h2 : way < 3
    · have z2 : (way : Int) < 3 := by omega
      obtain ⟨ms, mp, me⟩ := sorted_eD kS (show ds.length < 64 by omega)
      have mlen : ms.length = ds.length := by rw [mp.length_eq, List.length_map]
      have dpos : 0 < ds.length := by
        cases ds with
        | nil => exact (h0 rfl).elim
        | cons a r => simp
      simp [z2, me]
      refine one_lst H D (by omega) (by simp; omega) (by simp; omega) (by omega) fun y hy w2 s2 => ?_
      obtain ⟨n, hn, rfl⟩ := List.mem_map.mp hy
      obtain ⟨⟨n', kd⟩, hp', e1⟩ := List.mem_map.mp (mp.mem_iff.mp hn)
      simp at e1; subst e1
      have b2 := s2.hi
      have lk := lookup_ofG nd hp'
      simp [lk, kS]
      refine sum_ok H D (by omega) nd (by omega) (by omega) fun m g w3 s3 => ?_
      have b3 := s3.hi
      have s123 := (s1.trans s2).trans s3
      have gi : CdG F w.c ds (.isn m) 2 0 300 := {
        ok := fun ks kin _ => by
          obtain ⟨b, e⟩ := g.kind kin
          show (kindIn ks m).isSome = true
          rw [e]; rfl
        st := g.told
        h := by
          show 1 + hS m ≤ 2
          rw [g.hS]; decide
        z := Nat.le_refl _
        r := by
          have := g.rsz sh
          show rszs _ + 8 ≤ _
          simp [rszs, Ev.rsz]
          omega
        k := by
          show roks _ = true
          simp [roks, rok, g.rok] }
      have gn : CdG F w.c ds (.not (.isn m)) 3 0 400 := {
        ok := fun ks kin kn => gi.ok ks kin kn
        st := g.told
        h := by
          show 1 + (1 + hS m) ≤ 3
          rw [g.hS]; decide
        z := Nat.le_refl _
        r := by
          have := gi.r
          show rszs _ + 8 ≤ _
          simp [rszs, Ev.rsz]
          omega
        k := by
          have := gi.k
          show roks _ = true
          simp [roks, rok, this] }
      have p1 := q (.isn m) (gi.le (by omega) (by omega) (by omega))
      have p2 := q (.not (.isn m)) (gn.le (by omega) (by omega) (by omega))
      simp only [Cd.e] at p1 p2
      by_cases h3 : way = 2
      · subst h3
        simp
        refine D.ok (m := 3) (by omega) (by omega) (by omega) (by omega) fun r w4 hr s4 => ?_
        by_cases hr0 : r = 0
        · subst hr0
          simp
          exact p1 w4 ((s123.trans s4).le (by omega) (by omega))
        · have hr1 : ((r : Int) == 0) = false := by simp; omega
          simp [hr1]
          exact p2 w4 ((s123.trans s4).le (by omega) (by omega))
      · have z3 : ((way : Int) == 2) = false := by simp; omega
        simp [z3]
        exact p2 w3 (s123.le (by omega) (by omega))
    · have z2 : ¬ (way : Int) < 3 := by omega
      have e : decide ((way : Int) < 3) = false := by simp [z2]
      simp [e]
      have fin : SW (exSs (M.cx (k - 1)) (match f_law_straight_cond.body with
          | .cons _ (.cons _ (.cons _ (.cons _ (.cons _ r)))) => r
          | r => r) [some (.val (.ref 0)), some (.val F.e), some (.val (eD kS ds)), some (.val (.int 1)), some (.val (.int way)), none, none, none, none] (hp w1 hs)) (fun _ h => f_law_straight_cond.fresh = false ∧ P .non h) P X := by
        simp [f_law_straight_cond]
        refine is_ok H D (by omega) nd nd (by omega) h0 (by omega) (by omega) fun m1 m2 kd g1 g2 w2 s2 => ?_
        have g2 : SumG ds kd m2 := by rcases g2 with g | g <;> exact g
        exact q (.is m1 m2) ((is_good g1 g2 sh).le (by omega) (by omega) (by omega)) w2 ((s1.trans s2).le (by omega) (by omega))
      simp [f_law_straight_cond] at fin
      by_cases h3 : way = 3
      · subst h3
        simp
        refine cond0_ok H D (j := w.c) (by omega) nd (by omega) h0 sh (by omega) fun c1 g1 w2 s2 => ?_
        have b2 := s2.hi
        refine cond0_ok H D (j := w.c) (by omega) nd (by omega) h0 sh (by omega) fun c2 g2 w3 s3 => ?_
        exact q (.both c1 c2) ((both_good g1 g2).le (by omega) (by omega) (by omega)) w3 (((s1.trans s2).trans s3).le (by omega) (by omega))
      · have z3 : ((way : Int) == 3) = false := by simp; omega
        simp [z3]
        by_cases h4 : way = 4
        · subst h4
          simp
          by_cases hb : (w1.b : Int) < 4
          · simp [hb]
            refine tab_ok H D (by omega) gF (by omega) (by omega) fun t ht2 w2 s2 c2 => ?_
            rw [cc]
            obtain ⟨ga, new⟩ := tab_good gF ht2 (j := w.c + 1) (by omega)
            have b2 := s2.hi
            have raw : ∃ rw0, rawA F (.table t.name (aliasN (w.c + 1))) = some rw0 ∧ srt rw0 = tabCs t (w.c + 1) := by
              have := ga.cols
              unfold colsA at this
              cases e : rawA F (.table t.name (aliasN (w.c + 1))) with
              | none => rw [e] at this; cases this
              | some x => rw [e] at this; exact ⟨x, rfl, Option.some.inj this⟩
            obtain ⟨rw0, hr1, hr2⟩ := raw
            obtain ⟨mine, hm1, hm2⟩ := kinds_ok H (h := hp w2 hs) gF.ok fL (.table t.name (aliasN (w.c + 1))) (k := k - 1) hr1 rfl (by show 16 ≤ L; decide) (by show 1 + 2 ≤ k - 1; omega)
            have ndc := (cols_ok gF.ok ga.cols).1
            have pm : List.Perm mine ((tabCs t (w.c + 1)).map pr) := by rw [← hr2]; exact hm2.trans (srt_pr rw0).symm
            have ndm : (mine.map (·.1)).Nodup := (perm_names pm).nodup_iff.mpr ndc
            have ml : mine.length ≤ 3 := by rw [pm.length_eq, List.length_map]; exact ga.l
            have m0 : mine ≠ [] := fun z => by
              have this := pm.length_eq
              rw [z, List.length_map] at this
              exact ga.ne (List.eq_nil_of_length_eq_zero this.symm)
            have disj : ((ds ++ mine).map (·.1)).Nodup := by
              rw [List.map_append]
              refine List.nodup_append.mpr ⟨nd, ndm, fun x hx y hy z => ?_⟩
              subst z
              obtain ⟨p, hp, e1⟩ := List.mem_map.mp ((perm_names pm0).mem_iff.mp hx)
              obtain ⟨p', hp', e2⟩ := List.mem_map.mp ((perm_names pm).mem_iff.mp hy)
              obtain ⟨r, hr⟩ := new p' hp'
              have := kn0 p hp
              rw [e1, ← e2, hr] at this
              have := this.new
              omega
            have shm : Shrt mine := known_shrt pm ga.nm
            have shb : Shrt (ds ++ mine) := fun p hp => by
              rcases List.mem_append.mp hp with hp | hp
              · exact sh p hp
              · exact shm p hp
            have lb : (ds ++ mine).length < 64 := by simp; omega
            have lL : ds.length + mine.length ≤ L := by have : L = 16777216 := rfl; omega
            simp [hm1, lL, dict_two disj]
            refine D.ok (m := 3) (by omega) (by omega) (by omega) (by omega) fun r w3 hr s3 => ?_
            have b3 := s3.hi
            by_cases hr0 : r = 0
            · subst hr0
              simp
              refine is_ok H D (by omega) ndm nd (by omega) m0 (by omega) (by omega) fun m1 m2 kd g1 g2 w4 s4 => ?_
              have b4 := s4.hi
              have gi : CdG F (w.c + 1) (ds ++ mine) (.is m1 m2) 2 0 400 := is_good (g1.mono sub_mem') (by rcases g2 with g | g; exact g.mono sub_mem'; exact g.mono sub_mem) shb
              refine cond0_ok H D (j := w.c + 1) (by omega) disj lb (fun z => h0 (List.append_eq_nil_iff.mp z).1) shb (by omega) fun c g5 w5 s5 => ?_
              have st := (((s1.trans s2).trans s3).trans s4).trans s5
              exact q (.som (.table t.name (aliasN (w.c + 1))) (.both (.is m1 m2) c)) ((som_good ga pm ndc new (both_good gi g5)).le (by omega) (by omega) (by omega)) w5 (st.le (by omega) (by omega))
            · have hr1 : ((r : Int) == 0) = false := by simp; omega
              simp [hr1]
              refine is_ok H D (by omega) ndm nd (by omega) m0 (by omega) (by omega) fun m1 m2 kd g1 g2 w4 s4 => ?_
              have gi : CdG F (w.c + 1) (ds ++ mine) (.is m1 m2) 2 0 400 := is_good (g1.mono sub_mem') (by rcases g2 with g | g; exact g.mono sub_mem'; exact g.mono sub_mem) shb
              have st := (((s1.trans s2).trans s3)).trans s4
              exact q (.som (.table t.name (aliasN (w.c + 1))) (.is m1 m2)) ((som_good ga pm ndc new gi).le (by omega) (by omega) (by omega)) w4 (st.le (by omega) (by omega))
          · simp [hb]
            exact fin
        · have z4 : ((way : Int) == 4) = false := by simp; omega
          simp [z4]
          exact fin
end
end Pl
end
section
set_option autoImplicit false
set_option linter.all false
set_option maxRecDepth 100000
/-! P12: what asks are made of. -/
namespace Pl
open Ev K64
/-! ### the order of columns -/
theorem strLt_iff (a b : S) : strLt a b = true ↔ a < b := by unfold strLt; simp
theorem tri (a b : S) : a < b ∨ b ≤ a := by
  by_cases z : a < b
  · exact .inl z
  · exact .inr (List.not_lt.mp z)
theorem leC_iff (a b : Col) : leC a b = true ↔ (a.1 < b.1 ∨ (a.1 = b.1 ∧ (a.2.1.s < b.2.1.s ∨ (a.2.1.s = b.2.1.s ∧ (a.2.2 = true → b.2.2 = true))))) := by
  obtain ⟨a1, a2, a3⟩ := a
  obtain ⟨b1, b2, b3⟩ := b
  show (!lt3 b1 b2.s b3 a1 a2.s a3) = true ↔ _
  unfold lt3
  by_cases e1 : b1 = a1
  · subst e1
    have irr : ¬ b1 < b1 := List.lt_irrefl b1
    by_cases e2 : b2.s = a2.s
    · simp [e2, irr]
      have : ¬ a2.s < a2.s := List.lt_irrefl _
      simp [this]
      cases a3 <;> cases b3 <;> simp
    · have e2' : ¬ a2.s = b2.s := fun z => e2 z.symm
      have e3 : (b2.s == a2.s) = false := by simp [e2]
      simp [e3, irr, e2']
      rw [← Bool.not_eq_true, strLt_iff]
      constructor
      · intro h
        rcases tri a2.s b2.s with z | z
        · exact z
        · exact (e2 (List.le_antisymm z (List.not_lt.mp h))).elim
      · intro h z; exact List.lt_asymm h z
  · have e1' : ¬ a1 = b1 := fun z => e1 z.symm
    have e3 : (b1 == a1) = false := by simp [e1]
    simp [e3, e1']
    rw [← Bool.not_eq_true, strLt_iff]
    constructor
    · intro h
      rcases tri a1 b1 with z | z
      · exact z
      · exact (e1 (List.le_antisymm z (List.not_lt.mp h))).elim
    · intro h z; exact List.lt_asymm h z
theorem leC_trans (a b c : Col) (h1 : leC a b = true) (h2 : leC b c = true) : leC a c = true := by
  rw [leC_iff] at *
  rcases h1 with h1 | ⟨h1, h1'⟩
  · rcases h2 with h2 | ⟨h2, _⟩
    · exact .inl (List.lt_trans h1 h2)
    · exact .inl (h2 ▸ h1)
  · rcases h2 with h2 | ⟨h2, h2'⟩
    · exact .inl (h1 ▸ h2)
    · refine .inr ⟨h1.trans h2, ?_⟩
      rcases h1' with h3 | ⟨h3, h3'⟩
      · rcases h2' with h4 | ⟨h4, _⟩
        · exact .inl (List.lt_trans h3 h4)
        · exact .inl (h4 ▸ h3)
      · rcases h2' with h4 | ⟨h4, h4'⟩
        · exact .inl (h3 ▸ h4)
        · exact .inr ⟨h3.trans h4, fun z => h4' (h3' z)⟩
theorem leC_total (a b : Col) : (leC a b || leC b a) = true := by
  rw [Bool.or_eq_true, leC_iff, leC_iff]
  by_cases e1 : a.1 = b.1
  · by_cases e2 : a.2.1.s = b.2.1.s
    · cases ha : a.2.2 with
      | false => exact .inl (.inr ⟨e1, .inr ⟨e2, by simp⟩⟩)
      | true => exact .inr (.inr ⟨e1.symm, .inr ⟨e2.symm, fun _ => rfl⟩⟩)
    · rcases tri a.2.1.s b.2.1.s with z | z
      · exact .inl (.inr ⟨e1, .inl z⟩)
      · refine .inr (.inr ⟨e1.symm, .inl ?_⟩)
        rcases tri b.2.1.s a.2.1.s with y | y
        · exact y
        · exact (e2 (List.le_antisymm y z)).elim
  · rcases tri a.1 b.1 with z | z
    · exact .inl (.inl z)
    · refine .inr (.inl ?_)
      rcases tri b.1 a.1 with y | y
      · exact y
      · exact (e1 (List.le_antisymm y z)).elim
theorem srt_srt (cs : Cols) : srt (srt cs) = srt cs := by
  unfold srt
  exact List.mergeSort_of_pairwise (List.pairwise_mergeSort leC_trans leC_total cs)
theorem cols_srt {F : Fr} {a : Ak} {cs : Cols} (h : colsA F a = some cs) : srt cs = cs := by
  unfold colsA at h
  cases e : rawA F a with
  | none => rw [e] at h; cases h
  | some x => rw [e] at h; cases h; exact srt_srt x
theorem raw_of {F : Fr} {a : Ak} {cs : Cols} (h : colsA F a = some cs) : (rawA F a).map srt = some cs := h
theorem known_srt {j : Nat} {cs : Cols} (h : Known j cs) : Known j (srt cs) := fun p hp => h p ((srt_perm cs).mem_iff.mp hp)
theorem ne_srt {cs : Cols} (h : cs ≠ []) : srt cs ≠ [] := fun z => h (by
  have := srt_len (cs := cs)
  rw [z] at this
  exact List.eq_nil_of_length_eq_zero this.symm)
theorem pick_good {F : Fr} {j j' : Nat} {ds : List (S × Kd)} {a : Ak} {cs : Cols} {c : Cd} {h1 z1 r1 l1 h2 z2 r2 : Nat} (g : AkG F j a cs h1 z1 r1 l1) (gc : CdG F j' ds c h2 z2 r2) (kin : Kin ds cs) (kn : Known j' cs) :
    AkG F j (.pick a c) cs (1 + max h1 h2) (z1 + z2) (r1 + r2 + 70) l1 where
  cols := by
    unfold colsA rawA
    rw [raw_of g.cols, Option.bind_some, gc.ok cs kin kn]
    simp [cols_srt g.cols]
  st := by
    show (stA a && stC c) = true
    rw [g.st, gc.st]; rfl
  h := by
    have := g.h
    have := gc.h
    show 1 + max (hA a) (hC c) ≤ _
    omega
  z := by
    have := g.z
    have := gc.z
    show zA a + zC c ≤ _
    omega
  r := by
    have := g.r
    have := gc.r
    show rszs _ + 8 ≤ _
    simp [rszs, Ev.rsz]
    omega
  k := by
    show roks _ = true
    simp [roks, rok, g.k, gc.k]
  l := g.l
  ne := g.ne
  nm := g.nm
theorem once_good {F : Fr} {j : Nat} {a : Ak} {cs : Cols} {h1 z1 r1 l1 : Nat} (g : AkG F j a cs h1 z1 r1 l1) : AkG F j (.once a) cs (1 + h1) z1 (r1 + 70) l1 where
  cols := by
    unfold colsA rawA
    rw [raw_of g.cols]
    simp [cols_srt g.cols]
  st := g.st
  h := by
    have := g.h
    show 1 + hA a ≤ _
    omega
  z := g.z
  r := by
    have := g.r
    show rszs _ + 8 ≤ _
    simp [rszs, Ev.rsz]
    omega
  k := by
    show roks _ = true
    simp [roks, rok, g.k]
  l := g.l
  ne := g.ne
  nm := g.nm
theorem addCs_self : ∀ (x : Cols), addCs x x = x
  | [] => rfl
  | c :: x => by simp [addCs, addCs_self x]
theorem add_good {F : Fr} {j : Nat} {a b : Ak} {cs : Cols} {h1 z1 r1 l1 h2 z2 r2 l2 : Nat} (g : AkG F j a cs h1 z1 r1 l1) (g2 : AkG F j b cs h2 z2 r2 l2) : AkG F j (.add a b) cs (1 + max h1 h2) (z1 + z2) (r1 + r2 + 70) l1 where
  cols := by
    unfold colsA rawA
    rw [raw_of g.cols, raw_of g2.cols]
    simp [addCs_self, cols_srt g.cols]
  st := by
    show (stA a && stA b) = true
    rw [g.st, g2.st]; rfl
  h := by
    have := g.h
    have := g2.h
    show 1 + max (hA a) (hA b) ≤ _
    omega
  z := by
    have := g.z
    have := g2.z
    show zA a + zA b ≤ _
    omega
  r := by
    have := g.r
    have := g2.r
    show rszs _ + 8 ≤ _
    simp [rszs, Ev.rsz]
    omega
  k := by
    show roks _ = true
    simp [roks, rok, g.k, g2.k]
  l := g.l
  ne := g.ne
  nm := g.nm
theorem kin_appL {ds : List (S × Kd)} {x y : Cols} (h : Kin ds x) : Kin ds (x ++ y) := fun n kd hn => by
  obtain ⟨m, hm⟩ := h n kd hn
  exact ⟨m, by rw [lookup_app, hm]; rfl⟩
theorem kin_appR {ds : List (S × Kd)} {x y : Cols} (nd : ((x ++ y).map (·.1)).Nodup) (h : Kin ds y) : Kin ds (x ++ y) := fun n kd hn => by
  obtain ⟨m, hm⟩ := h n kd hn
  exact ⟨m, lookup_of nd (List.mem_append_right _ (lookup_mem hm))⟩
theorem kin_app {ds es : List (S × Kd)} {x : Cols} (h1 : Kin ds x) (h2 : Kin es x) : Kin (ds ++ es) x := fun n kd hn => by
  rcases List.mem_append.mp hn with hn | hn
  · exact h1 n kd hn
  · exact h2 n kd hn
def bothCs (w : Jn) (x y : Cols) : Cols := match w with
  | .half => x
  | .lack => x
  | .left => x ++ y.map fun c => (c.1, c.2.1, true)
  | .join => x ++ y
theorem join_good {F : Fr} {j : Nat} {w : Jn} {a b : Ak} {x y : Cols} {c : Cd} {h1 z1 r1 l1 h2 z2 r2 l2 h3 z3 r3 : Nat} (hw : straightJ w = true) (g : AkG F j a x h1 z1 r1 l1) (g2 : AkG F j b y h2 z2 r2 l2) (nd : ((x ++ y).map (·.1)).Nodup) (ok : okC F c (x ++ y) = true)
    (st : stC c = true) (hh : hC c ≤ h3) (zz : zC c ≤ z3) (rr : rsz c.e ≤ r3) (kk : rok c.e = true) : AkG F j (.both w a b c) (srt (bothCs w x y)) (1 + max (max h1 h2) h3) (z1 + z2 + z3) (r1 + r2 + r3 + 70) (l1 + l2) where
  cols := by
    unfold colsA rawA
    rw [raw_of g.cols, raw_of g2.cols]
    simp only [Option.bind_some, ok, nodupK_iff.mpr nd, Bool.and_self, guard_t, Option.map_some]
    congr 2
  st := by
    show (straightJ w && (stA a && (stA b && stC c))) = true
    rw [hw, g.st, g2.st, st]; rfl
  h := by
    have := g.h
    have := g2.h
    show 1 + max (max (hA a) (hA b)) (hC c) ≤ _
    omega
  z := by
    have := g.z
    have := g2.z
    show zA a + zA b + zC c ≤ _
    omega
  r := by
    have := g.r
    have := g2.r
    have e : (w.s).length = 4 := by cases w <;> rfl
    show rszs _ + 8 ≤ _
    simp [rszs, Ev.rsz, e]
    omega
  k := by
    show roks _ = true
    simp [roks, rok, g.k, g2.k, kk]
  l := by
    have := g.l
    have := g2.l
    rw [srt_len]
    cases w <;> simp [bothCs] <;> omega
  ne := ne_srt (by
    have := g.ne
    cases w <;> simp [bothCs, this])
  nm := known_srt (by
    have k1 := g.nm
    have k2 := g2.nm
    cases w with
    | half => exact k1
    | lack => exact k1
    | join =>
      intro p hp
      rcases List.mem_append.mp hp with hp | hp
      · exact k1 p hp
      · exact k2 p hp
    | left =>
      intro p hp
      rcases List.mem_append.mp hp with hp | hp
      · exact k1 p hp
      · obtain ⟨c, hc, rfl⟩ := List.mem_map.mp hp
        exact k2 c hc)
/-! ### shows -/
theorem splitS_no (c : Nat) : ∀ (s : S), c ∉ s → splitS c s = [s]
  | [], _ => rfl
  | x :: r, h => by
    simp only [List.mem_cons, not_or] at h
    unfold splitS
    rw [if_neg (fun z => h.1 z.symm), splitS_no c r h.2]
theorem splitS_mid (c : Nat) : ∀ (s r : S), c ∉ s → splitS c (s ++ c :: r) = s :: splitS c r
  | [], r, _ => by simp [splitS]
  | x :: s, r, h => by
    simp only [List.mem_cons, not_or] at h
    rw [List.cons_append]
    conv => lhs; unfold splitS
    rw [if_neg (fun z => h.1 z.symm), splitS_mid c s r h.2]
theorem word_dot {s : S} (h : isWord s = true) : 46 ∉ s := fun hm => by
  unfold isWord at h
  rw [Bool.and_eq_true, List.all_eq_true] at h
  have := h.2 46 hm
  revert this; decide
theorem NmOk.name {j : Nat} {n : S} (h : NmOk j n) (hj : j < 676) : isName n = true := by
  rcases h with rfl | ⟨i, r, h1, rfl, h3, h4⟩
  · decide
  · have aw := alias_word (i := i) (by omega)
    unfold isName
    rw [splitS_mid _ _ _ (word_dot aw), splitS_no _ _ (word_dot h4)]
    simp [aw, h4]
theorem zPs_le {ps : List (S × Sm)} (h : ∀ p ∈ ps, p.1.length ≤ 7) : zPs ps ≤ 10 * ps.length := by
  induction ps with
  | nil => simp [zPs]
  | cons p r ih =>
    have := h p (by simp)
    have := ih fun q hq => h q (by simp [hq])
    unfold zPs
    simp only [List.length_cons]
    omega
theorem hPs_1 {ps : List (S × Sm)} (h : ∀ p ∈ ps, hS p.2 = 1) : hPs ps ≤ 1 := by
  induction ps with
  | nil => simp [hPs]
  | cons p r ih =>
    have := h p (by simp)
    have := ih fun q hq => h q (by simp [hq])
    unfold hPs
    omega
theorem rszs_le (xs : List EV) (n : Nat) (h : ∀ x ∈ xs, rsz x ≤ n) : rszs xs ≤ (n + 2) * xs.length := by
  induction xs with
  | nil => simp [rszs]
  | cons x xs ih =>
    have := h x (by simp)
    have := ih fun q hq => h q (by simp [hq])
    simp only [rszs, List.length_cons, Nat.mul_add, Nat.mul_one]
    omega
theorem roks_of (xs : List EV) (h : ∀ x ∈ xs, rok x = true) : roks xs = true := by
  induction xs with
  | nil => rfl
  | cons x xs ih =>
    simp only [roks, h x (by simp), ih fun q hq => h q (by simp [hq]), Bool.and_self]
/-- what may be shown: drawn sums of columns that stand there -/
theorem shown_good {F : Fr} {j : Nat} {ds : List (S × Kd)} {a : Ak} {cs : Cols} {ps : List (S × Sm)} {h1 z1 r1 l1 : Nat} (hj : j < 676) (g : AkG F j a cs h1 z1 r1 l1) (kin : Kin ds cs) (shrt : Shrt ds) (nd : (ps.map (·.1)).Nodup) (ne : ps ≠ []) (nm : ∀ p ∈ ps, NmOk j p.1)
    (sm : ∀ p ∈ ps, ∃ kd, SumG ds kd p.2) (pl : ps.length ≤ 40) : ∃ cs', cs'.length = ps.length ∧ AkG F j (.shw a ps) cs' (1 + max h1 3) (z1 + 400) (r1 + 70 + 270 * ps.length) ps.length := by
  have key : ∀ ps : List (S × Sm), (∀ p ∈ ps, NmOk j p.1) → (∀ p ∈ ps, ∃ kd, SumG ds kd p.2) → ∃ out, shownCs cs ps = some out ∧ out.map (·.1) = ps.map (·.1) := by
    intro ps
    induction ps with
    | nil => intro _ _; exact ⟨[], rfl, rfl⟩
    | cons p r ih =>
      intro q1 q2
      obtain ⟨out, e1, e2⟩ := ih (fun x hx => q1 x (by simp [hx])) fun x hx => q2 x (by simp [hx])
      obtain ⟨kd, gs⟩ := q2 p (by simp)
      obtain ⟨b, hb⟩ := gs.kind kin
      refine ⟨(p.1, kd, b) :: out, ?_, by simp [e2]⟩
      rw [shownCs_cons, (q1 p (by simp)).name hj, hb, e1]
      rfl
  obtain ⟨out, e1, e2⟩ := key ps nm sm
  have ol : out.length = ps.length := by
    have := congrArg List.length e2
    simpa using this
  have on : nodupK out = true := nodupK_iff.mpr (by rw [e2]; exact nd)
  refine ⟨srt out, by rw [srt_len, ol], ?_, ?_, ?_, ?_, ?_, ?_, by rw [srt_len, ol]; exact Nat.le_refl _, ?_, known_srt fun p hp => ?_⟩
  · unfold colsA rawA
    rw [raw_of g.cols]
    have : ps.isEmpty = false := by cases ps with
      | nil => exact (ne rfl).elim
      | cons a b => rfl
    simp [this, e1, on, ne]
  · show (stA a && ps.all fun p => told p.2) = true
    rw [g.st, Bool.true_and, List.all_eq_true]
    intro p hp
    obtain ⟨kd, gs⟩ := sm p hp
    exact gs.told
  · have := g.h
    have := hPs_1 (ps := ps) fun p hp => by obtain ⟨kd, gs⟩ := sm p hp; exact gs.hS
    show 1 + max (hA a) (2 + hPs ps) ≤ _
    omega
  · have := g.z
    have := zPs_le (ps := ps) fun p hp => (nm p hp).len
    show zA a + zPs ps ≤ _
    omega
  · have := g.r
    have := rszs_le (ps.map fun p : S × Sm => EV.tup [.str p.1, p.2.e]) 268 (fun x hx => by
      obtain ⟨p, hp, rfl⟩ := List.mem_map.mp hx
      obtain ⟨kd, gs⟩ := sm p hp
      have := gs.rsz shrt
      have := (nm p hp).len
      show rszs _ + 8 ≤ _
      simp [rszs, Ev.rsz]
      omega)
    rw [List.length_map] at this
    show rszs _ + 8 ≤ _
    simp [rszs, Ev.rsz]
    omega
  · show roks _ = true
    have := roks_of (ps.map fun p : S × Sm => EV.tup [.str p.1, p.2.e]) (fun x hx => by
      obtain ⟨p, hp, rfl⟩ := List.mem_map.mp hx
      obtain ⟨kd, gs⟩ := sm p hp
      show roks _ = true
      simp [roks, rok, gs.rok])
    simp [roks, rok, g.k, this]
  · exact ne_srt fun z => by
      rw [z] at ol
      exact ne (List.eq_nil_of_length_eq_zero ol.symm)
  · have := List.mem_map_of_mem (f := fun p : Col => p.1) hp
    rw [e2] at this
    obtain ⟨q, hq, e⟩ := List.mem_map.mp this
    have := nm q hq
    rw [e] at this
    exact this
end Pl
end
section
set_option autoImplicit false
set_option linter.all false
set_option maxRecDepth 100000
set_option maxHeartbeats 4000000
/-! P13: drawn straight asks. -/
namespace Pl
open Ev K64
def Hd (d : Nat) : Nat := 2 * d + 4
def Zd : Nat → Nat
  | 0 => 16
  | d + 1 => 2 * Zd d + 400
def Rd : Nat → Nat
  | 0 => 200
  | d + 1 => 2 * Rd d + 16000
def Ld : Nat → Nat
  | 0 => 3
  | d + 1 => 2 * Ld d + 1
def Td : Nat → Nat
  | 0 => 10
  | d + 1 => 2 * Td d + 200
def Cn : Nat → Nat
  | 0 => 1
  | d + 1 => 2 * Cn d
theorem d_small {d : Nat} (h : d ≤ 3) : Ld d ≤ 31 ∧ Zd d ≤ 3000 ∧ 3 ≤ Ld d ∧ 1 ≤ Cn d ∧ 10 ≤ Td d ∧ Td d ≤ 2000 ∧ 200 ≤ Rd d ∧ 16 ≤ Zd d := by
  match d, h with
  | 0, _ => decide
  | 1, _ => decide
  | 2, _ => decide
  | 3, _ => decide
theorem enumF_g {α : Type} (e : α → EV) : ∀ (l : List α) (i : Nat), enumF i (l.map e) = (l.zipIdx i).map fun p => .tup [.int p.2, e p.1]
  | [], i => rfl
  | t :: l, i => by
    simp only [List.map_cons, enumF, List.zipIdx_cons, enumF_g e l (i + 1)]
theorem cut_take (xs : List EV) (i : Nat) : cut xs none (some (i : Int)) = xs.take i := by
  unfold cut sIx
  have : ¬ (i : Int) < 0 := by omega
  simp only [this, if_false, Int.toNat_natCast, List.drop_zero, Nat.sub_zero]
  rcases Nat.le_total i xs.length with z | z
  · rw [Nat.min_eq_left z]
  · rw [Nat.min_eq_right z, List.take_of_length_le z, List.take_of_length_le (Nat.le_refl _)]
@[simp] theorem in_eD {β : Type} (f : β → EV) (ds : List (S × β)) (n : S) : inR (.str n) (eD f ds) = some (ds.lookup n).isSome := by
  show some (decide (K0.s n ∈ dK ds)) = _
  congr 1
  cases e : ds.lookup n with
  | none =>
    rw [Option.isSome_none, decide_eq_false_iff_not, mem_dK]
    intro hm
    obtain ⟨p, hp, rfl⟩ := List.mem_map.mp hm
    induction ds with
    | nil => cases hp
    | cons q r ih =>
      obtain ⟨m, u⟩ := q
      rw [List.lookup_cons] at e
      rcases List.mem_cons.mp hp with z | z
      · subst z; simp at e
      · cases h : p.1 == m with
        | true => rw [h] at e; cases e
        | false => rw [h] at e; exact ih z e (List.mem_map.mpr ⟨p, z, rfl⟩)
  | some q =>
    rw [Option.isSome_some, decide_eq_true_eq, mem_dK]
    exact List.mem_map.mpr ⟨(n, q), lookup_memG e, rfl⟩
theorem any_str (ns : List S) (x : S) : ((ns.map EV.str).any fun z => eqv z (.str x)) = ns.any fun z => z == x := by
  rw [List.any_map]; rfl
/-- each name at its first place -/
def firsts (ns : List S) : List (S × Nat) := ns.zipIdx.filter fun p => !((ns.take p.2).any fun z => z == p.1)
theorem firsts_nd (ns : List S) : ((firsts ns).map (·.1)).Nodup := by
  unfold firsts
  rw [List.nodup_iff_pairwise_ne, List.pairwise_map]
  have h1 : (ns.zipIdx).Pairwise fun p q => p.2 < q.2 := by
    rw [List.pairwise_iff_getElem]
    intro i j hi hj hij
    simpa using hij
  have h2 := h1.filter (fun p => !((ns.take p.2).any fun z => z == p.1))
  refine h2.imp_of_mem fun {p q} hp hq hlt e => ?_
  obtain ⟨hp1, _⟩ := List.mem_filter.mp hp
  obtain ⟨_, hq2⟩ := List.mem_filter.mp hq
  have e1 : ns[p.2]? = some p.1 := List.mk_mem_zipIdx_iff_getElem?.mp hp1
  have : ((ns.take q.2).any fun z => z == q.1) = true := by
    rw [List.any_eq_true]
    refine ⟨p.1, ?_, by simp [e]⟩
    rw [List.mem_iff_getElem?]
    exact ⟨p.2, by rw [List.getElem?_take_of_lt hlt, e1]⟩
  rw [this] at hq2
  cases hq2
theorem firsts_mem {ns : List S} {p : S × Nat} (h : p ∈ firsts ns) : p.1 ∈ ns := List.fst_mem_of_mem_zipIdx (List.mem_filter.mp h).1
theorem firsts_len (ns : List S) : (firsts ns).length ≤ ns.length := by
  have := List.length_filter_le (fun p : S × Nat => !((ns.take p.2).any fun z => z == p.1)) ns.zipIdx
  unfold firsts
  simpa using this
theorem firsts_ne {ns : List S} (h : ns ≠ []) : firsts ns ≠ [] := by
  cases ns with
  | nil => exact (h rfl).elim
  | cons x r =>
    unfold firsts
    simp
section
variable {M : Mo} (H : Has M) {F : Fr} {h : Hh}
include H
theorem kinds_good {a0 : Nat} (gF : FrG a0 F) {j h1 z1 r1 l1 k : Nat} {a : Ak} {cs : Cols} (g : AkG F j a cs h1 z1 r1 l1) (hz : z1 ≤ 100000) (hk : h1 + 2 ≤ k) : ∃ ds, (M.cx k).callF 37 [F.e, a.e] h = .ok (eD kS ds) h ∧ List.Perm ds (cs.map pr) := by
  have := g.cols
  unfold colsA at this
  cases e : rawA F a with
  | none => rw [e] at this; cases this
  | some x =>
    rw [e] at this
    have fL : F.tabs.length ≤ L := by have := gF.few; have : L = 16777216 := rfl; omega
    obtain ⟨ds, q1, q2⟩ := kinds_ok H (h := h) gF.ok fL a (k := k) e g.st (by have := g.z; have : L = 16777216 := rfl; omega) (by have := g.h; omega)
    refine ⟨ds, q1, ?_⟩
    rw [← Option.some.inj this]
    exact q2.trans (srt_pr x).symm
end
def SI (hs : Hh) (ms : List S) (w2 : Wl) (r : List S) (acc : List EV) (h' : Hh) : Prop := ∃ (sub : List S) (w3 : Wl), acc = sub.map EV.str ∧ h' = hp w3 hs ∧ (∀ x ∈ sub, x ∈ ms) ∧ (∀ x ∈ r, x ∈ ms) ∧ sub.length + r.length ≤ ms.length ∧ r.length ≤ ms.length ∧ Stp (ms.length - r.length) 0 w2 w3
section
variable {M : Mo} (H : Has M) (D : Draws M) {hs : Hh} {F : Fr}
include H D
theorem drawn_ok {a0 : Nat} (gF : FrG a0 F) : ∀ (d : Nat) {k : Nat} {w : Wl} {P : EV → Hh → Prop} {X : Nat → Hh → Prop}, d ≤ 3 → 30 + d ≤ k → w.t + Td d < TT → w.c + Cn d < 640 →
    (∀ a cs w', AkG F w'.c a cs (Hd d) (Zd d) (Rd d) (Ld d) → Stp (Td d) (Cn d) w w' → P a.e (hp w' hs)) → RW ((M.cx k).callF 41 [.ref 0, F.e, .int d] (hp w hs)) P X
  | 0, k, w, P, X, hd, hk, ht, hc, q => by
    have e1 : Td 0 = 10 := rfl
    have e2 : Cn 0 = 1 := rfl
    refine tab_ok H D (by omega) gF (by omega) (by omega) fun t ht2 w2 s2 c2 => ?_
    obtain ⟨ga, new⟩ := tab_good gF ht2 (j := w.c + 1) (by omega)
    refine q _ (tabCs t (w.c + 1)) w2 ?_ (s2.le (by omega) (by omega))
    rw [c2]
    exact ga.le (Nat.le_refl _) (by decide) (by decide) (by decide) (by decide)
  | d + 1, k, w, P, X, hd, hk, ht, hc, q => by
    have e1 : Td (d + 1) = 2 * Td d + 200 := rfl
    have e2 : Cn (d + 1) = 2 * Cn d := rfl
    have e3 : Zd (d + 1) = 2 * Zd d + 400 := rfl
    have e4 : Rd (d + 1) = 2 * Rd d + 16000 := rfl
    have e5 : Ld (d + 1) = 2 * Ld d + 1 := rfl
    have e6 : Hd (d + 1) = Hd d + 2 := by unfold Hd; omega
    have e7 : Hd d = 2 * d + 4 := rfl
    obtain ⟨n1, n2, n3, n4, n5, n6, n7, n8⟩ := d_small (d := d) (by omega)
    rw [call_of (H.df 41 f_law_straight (by decide) (by decide) rfl) (by omega)]
    refine RW_run rfl ?_
    -- way 0
    have way0 : ∀ w1, Stp 1 0 w w1 → SW (exSs (M.cx (k - 1)) (match f_law_straight.body with
        | .cons _ r => r
        | r => r) [some (.val (.ref 0)), some (.val F.e), some (.val (.int ((d + 1 : Nat) : Int))), some (.val (.int 0)), none, none, none, none, none, none, none, none, none, none] (hp w1 hs)) (fun _ h => f_law_straight.fresh = false ∧ P .non h) P X := fun w1 s1 => by
      have b1 := s1.hi
      have c1 := s1.ch
      refine tab_tail H D (by omega) gF (by omega) (by omega) fun t ht2 w2 s2 c2 => ?_
      obtain ⟨ga, new⟩ := tab_good gF ht2 (j := w1.c + 1) (by omega)
      refine q _ (tabCs t (w1.c + 1)) w2 ?_ ((s1.trans s2).le (by omega) (by omega))
      rw [c2]
      exact ga.le (Nat.le_refl _) (by omega) (by omega) (by omega) (by omega)
    have ways : ∀ (n : Nat) w1, n ≤ 6 → Stp 1 0 w w1 → SW (exSs (M.cx (k - 1)) (match f_law_straight.body with
        | .cons _ r => r
        | r => r) [some (.val (.ref 0)), some (.val F.e), some (.val (.int ((d + 1 : Nat) : Int))), some (.val (.int n)), none, none, none, none, none, none, none, none, none, none] (hp w1 hs)) (fun _ h => f_law_straight.fresh = false ∧ P .non h) P X := fun n w1 hn s1 => by
      by_cases h0 : n = 0
      · subst h0; exact way0 w1 s1
      · have z0 : ((n : Int) == 0) = false := by simp; omega
        have b1 := s1.hi
        have c1 := s1.ch
        simp [f_law_straight, z0]
        refine drawn_ok gF d (by omega) (by omega) (by omega) (by omega) fun a cs w2 g s2 => ?_
        have b2 := s2.hi
        have c2 := s2.ch
        obtain ⟨ds, hd1, hd2⟩ := kinds_good H (h := hp w2 hs) gF g (k := k - 1) (by omega) (by omega)
        have ndc := (cols_ok gF.ok g.cols).1
        have nd : (ds.map (·.1)).Nodup := (perm_names hd2).nodup_iff.mpr ndc
        have kin := kin_perm hd2 ndc
        have sh := known_shrt hd2 g.nm
        have dl : ds.length ≤ 31 := by
          have := hd2.length_eq
          rw [List.length_map] at this
          have := g.l
          omega
        have d0 : ds ≠ [] := fun z => by
          have this := hd2.length_eq
          rw [z, List.length_map] at this
          exact g.ne (List.eq_nil_of_length_eq_zero this.symm)
        simp [hd1]
        have s12 := s1.trans s2
        by_cases h1 : n = 1
        · subst h1
          simp
          refine cond1_ok H D gF (by omega) hd2 ndc g.nm (by omega) d0 (by omega) (by omega) fun c gc w3 s3 => ?_
          refine q (.pick a c) cs w3 ?_ ((s12.trans s3).le (by omega) (by omega))
          exact (pick_good g gc kin g.nm).le s3.cl (by omega) (by omega) (by omega) (by omega)
        · have z1 : ((n : Int) == 1) = false := by simp; omega
          simp [z1]
          by_cases h2 : n = 2
          · subst h2
            obtain ⟨ms, mp, me⟩ := sorted_eD kS (show ds.length < 64 by omega)
            have mlen : ms.length = ds.length := by rw [mp.length_eq, List.length_map]
            have dpos : 0 < ds.length := by
              cases ds with
              | nil => exact (d0 rfl).elim
              | cons a r => simp
            have mmem : ∀ x ∈ ms, ∃ kd, (x, kd) ∈ ds := fun x hx => by
              obtain ⟨p, hp, rfl⟩ := List.mem_map.mp (mp.mem_iff.mp hx)
              exact ⟨p.2, hp⟩
            simp [me]
            refine RW_comps (fun x : S => EV.str x) (SI hs ms w2) ms
              ⟨[], w2, rfl, rfl, by simp, fun x hx => hx, by simp, by simp, by simpa using Stp.refl w2⟩ ?_ ?_
            · rintro x r acc h' ⟨sub, w3, rfl, rfl, i1, i2, i3, i4, i5⟩
              have b3 := i5.hi
              simp only [List.length_cons] at i3 i4 i5
              refine ⟨by have : L = 16777216 := rfl; simp; omega, _, rfl, ?_⟩
              simp
              refine D.ok (m := 3) (by omega) (by omega) (by omega) (by omega) fun v w4 hv s4 => ?_
              have i6 := (i5.trans s4).le (show ms.length - (r.length + 1) + 1 ≤ ms.length - r.length by omega) (Nat.le_refl 0)
              by_cases hv0 : 0 < v
              · refine .inl ⟨by simp [hv0], sub ++ [x], w4, by simp, rfl, fun y hy => ?_, fun y hy => i2 y (by simp [hy]), by simp; omega, by omega, i6⟩
                rcases List.mem_append.mp hy with hy | hy
                · exact i1 y hy
                · simp at hy; subst hy; exact i2 y (by simp)
              · exact .inr ⟨by simp [hv0], sub, w4, rfl, rfl, i1, fun y hy => i2 y (by simp [hy]), by omega, by omega, i6⟩
            · rintro acc h' ⟨sub, w3, rfl, rfl, i1, _, i3, _, s3⟩
              have b3 := s3.hi
              simp at i3
              simp
              refine one_lst H D (by omega) (by simp; omega) (by simp; omega) (by omega) fun y hy w4 s4 => ?_
              obtain ⟨x, hx, rfl⟩ := List.mem_map.mp hy
              have b4 := s4.hi
              have nL : sub.length + 1 ≤ L := by have : L = 16777216 := rfl; omega
              generalize hns : sub ++ [x] = ns
              have hns' : sub.map EV.str ++ [EV.str x] = ns.map EV.str := by rw [← hns]; simp
              have nsl : ns.length ≤ ds.length + 1 := by rw [← hns]; simp; omega
              have nsm : ∀ y ∈ ns, y ∈ ms := fun y hy => by
                rw [← hns] at hy
                rcases List.mem_append.mp hy with hy | hy
                · exact i1 y hy
                · simp at hy; subst hy; exact hx
              have nsn : ns ≠ [] := by rw [← hns]; simp
              simp [nL, hns', enumF_g]
              have shT : ∀ i : Nat, shps 60 ((ns.map EV.str).take i) = true := fun i => shps_all fun z hz => by
                obtain ⟨p, hp, rfl⟩ := List.mem_map.mp (List.mem_of_mem_take hz)
                simp
              rw [comps_pure (p := fun p : S × Nat => !((ns.take p.2).any fun z => z == p.1)) (f := fun p : S × Nat => .tup [.str p.1, (Sm.col p.1).e]) _ _ (by have : L = 16777216 := rfl; simp; omega) (fun p hp => ⟨_, rfl, by
                simp [cut_take, shT]
                rw [← List.map_take, any_str], by simp [Sm.e]⟩)]
              have fz : (ns.zipIdx.filter fun p : S × Nat => !((ns.take p.2).any fun z => z == p.1)) = firsts ns := rfl
              rw [fz]
              simp
              refine one_lst H D (by omega) (by simp; omega) (by simp; omega) (by omega) fun y hy w5 s5 => ?_
              obtain ⟨x2, hx2, rfl⟩ := List.mem_map.mp hy
              obtain ⟨kd2, hk2⟩ := mmem x2 hx2
              have lk2 := lookup_ofG nd hk2
              have b5 := s5.hi
              simp [lk2, kS]
              have ff : ((firsts ns).map fun p : S × Nat => EV.tup [.str p.1, (Sm.col p.1).e]) = ((firsts ns).map fun p => (p.1, Sm.col p.1)).map fun p : S × Sm => EV.tup [.str p.1, p.2.e] := by rw [List.map_map]; rfl
              have fl := firsts_len ns
              have fnm : ∀ p ∈ firsts ns, NmOk w2.c p.1 := fun p hp => by
                obtain ⟨kd, hk⟩ := mmem p.1 (nsm p.1 (firsts_mem hp))
                obtain ⟨c, hc, e⟩ := List.mem_map.mp (hd2.mem_iff.mp hk)
                have this := g.nm c hc
                have e1 : c.1 = p.1 := congrArg Prod.fst e
                rw [← e1]
                exact this
              have fsm : ∀ p ∈ firsts ns, ∃ kd, SumG ds kd (.col p.1) := fun p hp => mmem p.1 (nsm p.1 (firsts_mem hp))
              have fin : ∀ (ps : List (S × Sm)) (w6 : Wl), (ps.map (·.1)).Nodup → ps ≠ [] → (∀ p ∈ ps, NmOk w2.c p.1) → (∀ p ∈ ps, ∃ kd, SumG ds kd p.2) → ps.length ≤ ds.length + 2 → Stp 5 0 w5 w6 → P (Ak.shw a ps).e (hp w6 hs) := fun ps w6 p1 p2 p3 p4 p5 s6 => by
                have gl := g.l
                have dle : ds.length = cs.length := by rw [hd2.length_eq, List.length_map]
                obtain ⟨cs', _, ga⟩ := shown_good (show w2.c < 676 by omega) g kin sh p1 p2 p3 p4 (by omega)
                have st := (((s12.trans s3).trans s4).trans s5).trans s6
                refine q _ cs' w6 (ga.le ?_ (by omega) (by omega) (by omega) (by omega)) (st.le (by omega) (by omega))
                have := s3.cl
                have := s4.cl
                have := s5.cl
                have := s6.cl
                omega
              refine D.ok (m := 3) (by omega) (by omega) (by omega) (by omega) fun v w6 hv s6 => ?_
              have b6 := s6.hi
              have flL : (firsts ns).length + 1 ≤ L := by have : L = 16777216 := rfl; omega
              have flL' : (firsts ns).length ≤ L := by omega
              have plain : P (Ak.shw a ((firsts ns).map fun p => (p.1, Sm.col p.1))).e (hp w6 hs) := by
                refine fin _ w6 (by rw [List.map_map]; exact firsts_nd ns) (fun z => firsts_ne nsn (List.map_eq_nil_iff.mp z)) (fun p hp => ?_) (fun p hp => ?_) (by simp; omega) (s6.le (by omega) (by omega))
                · obtain ⟨r, hr, rfl⟩ := List.mem_map.mp hp
                  exact fnm r hr
                · obtain ⟨r, hr, rfl⟩ := List.mem_map.mp hp
                  exact fsm r hr
              simp only [Ak.e, List.map_map] at plain
              by_cases hv0 : v = 0
              · subst hv0
                simp
                cases hnew : ds.lookup [110, 101, 119] with
                | some q5 =>
                  simp [flL']
                  exact plain
                | none =>
                  simp
                  refine sum_ok H D (by omega) nd (by omega) (by omega) fun m gm w7 s7 => ?_
                  simp [flL]
                  have := fin (((firsts ns).map fun p => (p.1, Sm.col p.1)) ++ [([110, 101, 119], m)]) w7 ?_ (by simp) ?_ ?_ (by simp; omega) ((s6.trans s7).le (by omega) (by omega))
                  · simp only [Ak.e, List.map_append, List.map_map, List.map_cons, List.map_nil] at this
                    exact this
                  · rw [List.map_append, List.map_map]
                    refine List.nodup_append.mpr ⟨firsts_nd ns, by simp, fun y hy z hz e => ?_⟩
                    simp at hz
                    subst hz
                    subst e
                    obtain ⟨p, hp, e⟩ := List.mem_map.mp hy
                    obtain ⟨kd, hk⟩ := fsm p hp
                    have e' : p.1 = [110, 101, 119] := e
                    rw [e'] at hk
                    have := lookup_ofG nd hk
                    rw [hnew] at this
                    cases this
                  · intro p hp
                    rcases List.mem_append.mp hp with hp | hp
                    · obtain ⟨r, hr, rfl⟩ := List.mem_map.mp hp
                      exact fnm r hr
                    · simp at hp; subst hp; exact .inl rfl
                  · intro p hp
                    rcases List.mem_append.mp hp with hp | hp
                    · obtain ⟨r, hr, rfl⟩ := List.mem_map.mp hp
                      exact fsm r hr
                    · simp at hp; subst hp; exact ⟨kd2, gm⟩
              · have hv1 : ((v : Int) == 0) = false := by simp; omega
                simp [hv1, flL']
                exact plain
          · have z2 : ((n : Int) == 2) = false := by simp; omega
            simp [z2]
            by_cases h5 : n = 5
            · subst h5
              simp
              exact q (.once a) cs w2 ((once_good g).le (Nat.le_refl _) (by omega) (by omega) (by omega) (by omega)) (s12.le (by omega) (by omega))
            · have z5 : ((n : Int) == 5) = false := by simp; omega
              simp [z5]
              by_cases h6 : n = 6
              · subst h6
                simp
                refine D.ok (m := 2) (by omega) (by omega) (by omega) (by omega) fun r w3 hr s3 => ?_
                have b3 := s3.hi
                have fin : ∀ c w4, CdG F w2.c ds c 3 0 400 → Stp 10 0 w3 w4 → P (Ak.add (.pick a c) a).e (hp w4 hs) ∧ P (Ak.add a (.pick a c)).e (hp w4 hs) := fun c w4 gc s4 => by
                  have gp := pick_good g gc kin g.nm
                  have st := (s12.trans s3).trans s4
                  have jj : w2.c ≤ w4.c := Nat.le_trans s3.cl s4.cl
                  exact ⟨q _ cs w4 ((add_good gp g).le jj (by omega) (by omega) (by omega) (by omega)) (st.le (by omega) (by omega)), q _ cs w4 ((add_good g gp).le jj (by omega) (by omega) (by omega) (by omega)) (st.le (by omega) (by omega))⟩
                by_cases hr0 : r = 0
                · subst hr0
                  simp
                  refine cond0_ok H D (j := w2.c) (by omega) nd (by omega) d0 sh (by omega) fun c gc w4 s4 => ?_
                  exact (fin c w4 gc s4).1
                · have hr1 : ((r : Int) == 0) = false := by simp; omega
                  simp [hr1]
                  refine cond0_ok H D (j := w2.c) (by omega) nd (by omega) d0 sh (by omega) fun c gc w4 s4 => ?_
                  exact (fin c w4 gc s4).2
              · have z6 : ((n : Int) == 6) = false := by simp; omega
                simp [z6]
                refine drawn_ok gF d (by omega) (by omega) (by omega) (by omega) fun b cs2 w3 g2 s3 => ?_
                have b3 := s3.hi
                have c3 := s3.ch
                obtain ⟨es, he1, he2⟩ := kinds_good H (h := hp w3 hs) gF g2 (k := k - 1) (by omega) (by omega)
                have ndc2 := (cols_ok gF.ok g2.cols).1
                have nde : (es.map (·.1)).Nodup := (perm_names he2).nodup_iff.mpr ndc2
                have kin2 := kin_perm he2 ndc2
                have sh2 := known_shrt he2 g2.nm
                have el : es.length ≤ 31 := by
                  have := he2.length_eq
                  rw [List.length_map] at this
                  have := g2.l
                  omega
                have s123 := s12.trans s3
                have gj : AkG F w3.c a cs (Hd d) (Zd d) (Rd d) (Ld d) := g.le s3.cl (Nat.le_refl _) (Nat.le_refl _) (Nat.le_refl _) (Nat.le_refl _)
                simp [he1]
                rw [comps_pure (p := fun p : S × Kd => (ds.lookup p.1).isSome) (f := fun p : S × Kd => .str p.1) _ _ (by have : L = 16777216 := rfl; simp; omega) (fun p hp => ⟨_, rfl, by simp, by simp⟩)]
                have shx : shps 59 ((es.filter fun p : S × Kd => (ds.lookup p.1).isSome).map fun p => EV.str p.1) = true := shps_all fun x hx => by
                  obtain ⟨p, hp, rfl⟩ := List.mem_map.mp hx
                  simp
                simp [shx, filt_emp]
                cases hem : (es.filter fun p : S × Kd => (ds.lookup p.1).isSome).isEmpty with
                | false =>
                  simp
                  exact q a cs w3 (gj.le (Nat.le_refl _) (by omega) (by omega) (by omega) (by omega)) (s123.le (by omega) (by omega))
                | true =>
                  have dis : ∀ p ∈ es, ds.lookup p.1 = none := fun p hp => by
                    cases e : ds.lookup p.1 with
                    | none => rfl
                    | some q =>
                      have : p ∈ es.filter fun p : S × Kd => (ds.lookup p.1).isSome := List.mem_filter.mpr ⟨hp, by rw [e]; rfl⟩
                      rw [List.isEmpty_iff.mp hem] at this
                      cases this
                  have ndb : ((ds ++ es).map (·.1)).Nodup := by
                    rw [List.map_append]
                    refine List.nodup_append.mpr ⟨nd, nde, fun x hx y hy z => ?_⟩
                    subst z
                    obtain ⟨p, hp, e1⟩ := List.mem_map.mp hx
                    obtain ⟨p', hp', e2⟩ := List.mem_map.mp hy
                    have := dis p' hp'
                    rw [e2, ← e1, lookup_ofG nd (show (p.1, p.2) ∈ ds from hp)] at this
                    cases this
                  have pmb : List.Perm (ds ++ es) ((cs ++ cs2).map pr) := by rw [List.map_append]; exact hd2.append he2
                  have ndcs : ((cs ++ cs2).map (·.1)).Nodup := (perm_names pmb).nodup_iff.mp ndb
                  have kinb : Kin (ds ++ es) (cs ++ cs2) := kin_perm pmb ndcs
                  have knb : Known w3.c (cs ++ cs2) := fun p hp => by
                    rcases List.mem_append.mp hp with hp | hp
                    · exact gj.nm p hp
                    · exact g2.nm p hp
                  have shb : Shrt (ds ++ es) := known_shrt pmb knb
                  have lL : ds.length + es.length ≤ L := by have : L = 16777216 := rfl; omega
                  have fin : ∀ (J : Jn) (c : Cd) (w4 : Wl), straightJ J = true → CdG F w3.c (ds ++ es) c 4 0 1000 → Stp 30 0 w3 w4 → P (Ak.both J a b c).e (hp w4 hs) := fun J c w4 hJ gc s4 => by
                    have ga := join_good hJ gj g2 ndcs (gc.ok _ kinb knb) gc.st gc.h gc.z gc.r gc.k
                    exact q _ _ w4 (ga.le s4.cl (by omega) (by omega) (by omega) (by omega)) ((s123.trans s4).le (by omega) (by omega))
                  have last : ∀ (c : Cd) (w4 : Wl), CdG F w3.c (ds ++ es) c 2 0 400 → Stp 10 0 w3 w4 → SW (exSs (M.cx (k - 1)) (match f_law_straight.body with
                      | .cons _ (.cons _ (.cons _ (.cons _ (.cons _ (.cons _ (.cons _ (.cons _ (.cons _ (.cons _ (.cons _ (.cons _ r))))))))))) => r
                      | r => r) [some (.val (.ref 0)), some (.val F.e), some (.val (.int ((d : Int) + 1))), some (.val (.int n)), some (.val a.e), some (.val (eD kS ds)), some (.val b.e), some (.val (eD kS es)), some (.val c.e), none, none, none, none, none] (hp w4 hs)) (fun _ h => f_law_straight.fresh = false ∧ P .non h) P X := fun c w4 gc s4 => by
                    have b4 := s4.hi
                    simp [f_law_straight]
                    refine D.ok (m := 4) (by omega) (by omega) (by omega) (by omega) fun r w5 hr s5 => ?_
                    have b5 := s5.hi
                    by_cases hr0 : r = 0
                    · subst hr0
                      simp [lL, dict_two ndb]
                      refine cond0_ok H D (j := w3.c) (by omega) ndb (by simp; omega) (fun z => d0 (List.append_eq_nil_iff.mp z).1) shb (by omega) fun c2 gc2 w6 s6 => ?_
                      have gb := both_good gc gc2
                      by_cases h3 : n = 3
                      · subst h3
                        simp
                        exact fin .join (.both c c2) w6 rfl (gb.le (by omega) (by omega) (by omega)) (((s4.trans s5).trans s6).le (by omega) (by omega))
                      · have z3 : ((n : Int) == 3) = false := by simp; omega
                        simp [z3]
                        exact fin .half (.both c c2) w6 rfl (gb.le (by omega) (by omega) (by omega)) (((s4.trans s5).trans s6).le (by omega) (by omega))
                    · have hr1 : ((r : Int) == 0) = false := by simp; omega
                      simp [hr1]
                      by_cases h3 : n = 3
                      · subst h3
                        simp
                        exact fin .join c w5 rfl (gc.le (by omega) (by omega) (by omega)) ((s4.trans s5).le (by omega) (by omega))
                      · have z3 : ((n : Int) == 3) = false := by simp; omega
                        simp [z3]
                        exact fin .half c w5 rfl (gc.le (by omega) (by omega) (by omega)) ((s4.trans s5).le (by omega) (by omega))
                  simp [f_law_straight] at last
                  simp
                  refine D.ok (m := 5) (by omega) (by omega) (by omega) (by omega) fun r w4 hr s4 => ?_
                  have b4 := s4.hi
                  by_cases hr0 : 0 < r
                  · simp [hr0]
                    refine is_ok H D (by omega) nd nde (by omega) d0 (by omega) (by omega) fun m1 m2 kd g5 g6 w5 s5 => ?_
                    have gi : CdG F w3.c (ds ++ es) (.is m1 m2) 2 0 400 := is_good (g5.mono sub_mem) (by rcases g6 with g | g; exact g.mono sub_mem; exact g.mono sub_mem') shb
                    exact last (.is m1 m2) w5 gi ((s4.trans s5).le (by omega) (by omega))
                  · simp [hr0]
                    have := last .yes w4 (yes_good.le (by omega) (by omega) (by omega)) (s4.le (by omega) (by omega))
                    simp [Cd.e] at this
                    exact this
    have pref : ∀ v w1, (∃ n : Nat, n ≤ 6 ∧ v = .int n) → Stp 1 0 w w1 → SW (exSs (M.cx (k - 1)) (match f_law_straight.body with
        | .cons _ r => r
        | r => r) [some (.val (.ref 0)), some (.val F.e), some (.val (.int ((d + 1 : Nat) : Int))), some (.val v), none, none, none, none, none, none, none, none, none, none] (hp w1 hs)) (fun _ h => f_law_straight.fresh = false ∧ P .non h) P X := fun v w1 ⟨n, hn, e⟩ s1 => by
      subst e; exact ways n w1 hn s1
    have split : f_law_straight.body = .cons (.asg (.nm 3) (.ite (.and_ (.cmp .gt (.var 2) (.int 0)) (.cmp .lt (.idx (.var 0) (.int 4)) (.int 4))) (.call 30 (.cons (.var 0) (.cons (.lst (.cons (.int 0) (.cons (.int 1) (.cons (.int 1) (.cons (.int 2) (.cons (.int 3) (.cons (.int 3) (.cons (.int 4) (.cons (.int 4) (.cons (.int 5) (.cons (.int 6) .nil))))))))))) .nil))) (.int 0))) (match f_law_straight.body with
        | .cons _ r => r
        | r => r) := rfl
    rw [split]
    generalize hrest : (match f_law_straight.body with
        | .cons _ r => r
        | r => r) = rest at pref
    rw [exs_cons, SW_thn, ex_asg, SW_s]
    have hp1 : (0 : Int) < ((d + 1 : Nat) : Int) := by omega
    have st : startE f_law_straight.ns [.ref 0, F.e, .int ((d + 1 : Nat) : Int)] = [some (.val (.ref 0)), some (.val F.e), some (.val (.int ((d + 1 : Nat) : Int))), none, none, none, none, none, none, none, none, none, none, none] := rfl
    rw [st]
    generalize ((d + 1 : Nat) : Int) = D1 at pref hp1 ⊢
    by_cases hb : (w.b : Int) < 4
    · simp [hp1, hb]
      refine one_lst H D (by omega) (by simp) (by simp) (by omega) fun y hy w1 s1 => ?_
      refine pref y w1 ?_ s1
      simp at hy
      rcases hy with rfl | rfl | rfl | rfl | rfl | rfl | rfl
      · exact ⟨0, by omega, rfl⟩
      · exact ⟨1, by omega, rfl⟩
      · exact ⟨2, by omega, rfl⟩
      · exact ⟨3, by omega, rfl⟩
      · exact ⟨4, by omega, rfl⟩
      · exact ⟨5, by omega, rfl⟩
      · exact ⟨6, by omega, rfl⟩
    · simp [hp1, hb]
      exact pref (.int 0) w ⟨0, by omega, rfl⟩ ((Stp.refl w).le (by omega) (by omega))
end
end Pl
end
section
set_option autoImplicit false
set_option linter.all false
set_option maxRecDepth 100000
set_option maxHeartbeats 4000000
/-! P14: asks with one thing that isn't straight. -/
namespace Pl
open Ev K64
def Off (cs : Cols) : Prop := ∀ p ∈ cs, ∀ r, p.1 ≠ aliasN 648 ++ 46 :: r
theorem off_known {j : Nat} {cs : Cols} (h : Known j cs) (hj : j < 648) : Off cs := fun p hp r e => by
  have := h p hp
  rw [e] at this
  have := this.new
  omega
theorem off_srt {cs : Cols} (h : Off cs) : Off (srt cs) := fun p hp => h p ((srt_perm cs).mem_iff.mp hp)
theorem off_app {x y : Cols} (h1 : Off x) (h2 : Off y) : Off (x ++ y) := fun p hp => by
  rcases List.mem_append.mp hp with hp | hp
  · exact h1 p hp
  · exact h2 p hp
theorem off_both {w : Jn} {x y : Cols} (h1 : Off x) (h2 : Off y) : Off (bothCs w x y) := by
  cases w with
  | join => exact off_app h1 h2
  | half => exact h1
  | lack => exact h1
  | left =>
    refine off_app h1 fun p hp => ?_
    obtain ⟨c, hc, rfl⟩ := List.mem_map.mp hp
    exact h2 c hc
theorem dot_split {a b a' b' : Nat} {r r' : S} (h : [a, b] ++ 46 :: r = [a', b'] ++ 46 :: r') : [a, b] = [a', b'] ∧ r = r' := by
  simp at h
  exact ⟨by simp [h.1, h.2.1], h.2.2⟩
theorem off_tab {cs : Cols} {i : Nat} (hi : i ≠ 648) (h : ∀ p ∈ cs, ∃ r, p.1 = aliasN i ++ 46 :: r) : Off cs := fun p hp r e => by
  obtain ⟨r', e'⟩ := h p hp
  rw [e'] at e
  exact hi (alias_inj (dot_split e).1)
/-- two lots of columns, the one's of a table part of its own number -/
theorem nd_app {x y : Cols} {i : Nat} (hx : (x.map (·.1)).Nodup) (hy : (y.map (·.1)).Nodup) (off : ∀ p ∈ x, ∀ r, p.1 ≠ aliasN i ++ 46 :: r) (h : ∀ p ∈ y, ∃ r, p.1 = aliasN i ++ 46 :: r) : ((x ++ y).map (·.1)).Nodup := by
  rw [List.map_append]
  refine List.nodup_append.mpr ⟨hx, hy, fun a ha b hb e => ?_⟩
  obtain ⟨p, hp, rfl⟩ := List.mem_map.mp ha
  obtain ⟨p', hp', e'⟩ := List.mem_map.mp hb
  obtain ⟨r, hr⟩ := h p' hp'
  exact off p hp r (e.trans (e'.symm.trans hr))
theorem nd_app' {x y : Cols} {i : Nat} (hx : (x.map (·.1)).Nodup) (hy : (y.map (·.1)).Nodup) (off : ∀ p ∈ y, ∀ r, p.1 ≠ aliasN i ++ 46 :: r) (h : ∀ p ∈ x, ∃ r, p.1 = aliasN i ++ 46 :: r) : ((x ++ y).map (·.1)).Nodup := by
  rw [List.map_append]
  refine List.nodup_append.mpr ⟨hx, hy, fun a ha b hb e => ?_⟩
  obtain ⟨p, hp, e1⟩ := List.mem_map.mp ha
  obtain ⟨p', hp', e'⟩ := List.mem_map.mp hb
  obtain ⟨r, hr⟩ := h p hp
  exact off p' hp' r (e'.trans (e.symm.trans (e1.symm.trans hr)))
theorem known_off {j i : Nat} {cs : Cols} (h : Known j cs) (hj : j < i) : ∀ p ∈ cs, ∀ r, p.1 ≠ aliasN i ++ 46 :: r := fun p hp r e => by
  have := h p hp
  rw [e] at this
  have := this.new
  omega
theorem both_cols {F : Fr} {w : Jn} {a b : Ak} {c : Cd} {x y : Cols} (h1 : colsA F a = some x) (h2 : colsA F b = some y) (nd : ((x ++ y).map (·.1)).Nodup) (ok : okC F c (x ++ y) = true) : colsA F (.both w a b c) = some (srt (bothCs w x y)) := by
  unfold colsA rawA
  rw [raw_of h1, raw_of h2]
  simp only [Option.bind_some, ok, nodupK_iff.mpr nd, Bool.and_self, guard_t, Option.map_some]
  congr 2
theorem pick_cols {F : Fr} {a : Ak} {c : Cd} {x : Cols} (h1 : colsA F a = some x) (ok : okC F c x = true) : colsA F (.pick a c) = some x := by
  unfold colsA rawA
  rw [raw_of h1, Option.bind_some, ok]
  simp [cols_srt h1]
structure OkA (F : Fr) (o : Ak) (hh zz : Nat) : Prop where
  cols : ∃ cs, colsA F o = some cs ∧ Off cs
  h : hA o ≤ hh
  z : zA o ≤ zz
/-- what conditions are drawn from -/
structure CrG (F : Fr) (ds : List (S × Kd)) (c : Cd) : Prop where
  ok : ∀ ks, Kin ds ks → Known 673 ks → okC F c ks = true
  h : hC c ≤ 4
  z : zC c ≤ 32
section
variable {F : Fr} {a0 : Nat} (gF : FrG a0 F) {t : Tb} (ht : t ∈ F.tabs) {ds : List (S × Kd)} {n : S} {kd : Kd} {m : Sm} (hn : (n, kd) ∈ ds) (gm : SumG ds kd m)
/-- the list of conditions -/
def crC (t : Tb) (n : S) (m : Sm) (num : Bool) : List Cd :=
  [.less (.col n) m, .eith .yes (.is (.col n) m), .not (.is (.col n) m), .not .yes, .not (.not (.isn (.col n)))] ++ [.both (.isn (.col n)) (.less m (.col n)), .both .yes (.not (.both .yes .yes))] ++
  [.som (.table t.name (aliasN 675)) (.less (.col n) m), .som (.both .lack (.table t.name (aliasN 675)) (.table t.name (aliasN 674)) .yes) .yes, .som (.first (.table t.name (aliasN 675)) 1) .yes] ++
  (if num then [.is (.rek .plus (.col n) m) (.col n), .isn (.rek .times (.col n) (.num 2)), .not (.isn (.rek .minus (.col n) m))] else [])
include gF ht in
theorem tab_cols {i : Nat} (hi : i < 676) : colsA F (.table t.name (aliasN i)) = some (tabCs t i) := (tab_good gF ht hi).1.cols
include gF ht in
theorem tab_nd {i : Nat} (hi : i < 676) : ((tabCs t i).map (·.1)).Nodup := (cols_ok gF.ok (tab_cols gF ht hi)).1
include gF ht in
theorem tab_new {i : Nat} (hi : i < 676) : ∀ p ∈ tabCs t i, ∃ r, p.1 = aliasN i ++ 46 :: r := (tab_good gF ht hi).2
theorem som_ok {a : Ak} {c : Cd} {cs ks : Cols} (h1 : colsA F a = some cs) (off : ∀ p ∈ cs, p.1 ∉ ks.map (·.1)) (ok : okC F c (cs ++ ks) = true) : okC F (.som a c) ks = true := by
  show (match (rawA F a).map srt with
    | some is => is.all (fun p => (ks.lookup p.1).isNone) && okC F c (is ++ ks)
    | none => false) = true
  rw [raw_of h1]
  simp only [Bool.and_eq_true, List.all_eq_true]
  refine ⟨fun p hp => ?_, ok⟩
  rw [lookup_none, decide_eq_true_eq]
  exact off p hp
theorem known_nin {ks cs : Cols} {j i : Nat} (kn : Known j ks) (hj : j < i) (new : ∀ p ∈ cs, ∃ r, p.1 = aliasN i ++ 46 :: r) : ∀ p ∈ cs, p.1 ∉ ks.map (·.1) := fun p hp hm => by
  obtain ⟨q, hq, e⟩ := List.mem_map.mp hm
  obtain ⟨r, hr⟩ := new p hp
  exact known_off kn hj q hq r (e.trans hr)
include gF ht hn gm in
theorem crC_ok : ∀ c ∈ crC t n m (kd == .num), CrG F ds c := by
  have gc : SumG ds kd (.col n) := hn
  have less : ∀ {m1 m2 : Sm} ks, SumG ds kd m1 → SumG ds kd m2 → Kin ds ks → okC F (.less m1 m2) ks = true := fun {m1 m2} ks g1 g2 kin => by
    obtain ⟨b1, e1⟩ := g1.kind kin
    obtain ⟨b2, e2⟩ := g2.kind kin
    unfold okC
    rw [e1, e2]; simp
  have is_ : ∀ {m1 m2 : Sm} ks, SumG ds kd m1 → SumG ds kd m2 → Kin ds ks → okC F (.is m1 m2) ks = true := fun {m1 m2} ks g1 g2 kin => by
    obtain ⟨b1, e1⟩ := g1.kind kin
    obtain ⟨b2, e2⟩ := g2.kind kin
    unfold okC
    rw [e1, e2]; simp
  have isn : ∀ {m1 : Sm} ks, SumG ds kd m1 → Kin ds ks → okC F (.isn m1) ks = true := fun {m1} ks g1 kin => by
    obtain ⟨b1, e1⟩ := g1.kind kin
    unfold okC
    rw [e1]; rfl
  have hm := gm.hS
  have t675 := tab_cols gF ht (i := 675) (by omega)
  have n675 := tab_new gF ht (i := 675) (by omega)
  have d675 := tab_nd gF ht (i := 675) (by omega)
  have t674 := tab_cols gF ht (i := 674) (by omega)
  have n674 := tab_new gF ht (i := 674) (by omega)
  have d674 := tab_nd gF ht (i := 674) (by omega)
  have kapp : ∀ ks cs, Kin ds ks → Known 673 ks → (∀ p ∈ cs, ∃ r, p.1 = aliasN 675 ++ 46 :: r) → Kin ds (cs ++ ks) := fun ks cs kin kn new n' kd' hn' => by
    obtain ⟨b, hb⟩ := kin n' kd' hn'
    refine ⟨b, ?_⟩
    rw [lookup_app]
    cases e : cs.lookup n' with
    | none => exact hb
    | some q =>
      exact (known_nin kn (show 673 < 675 by omega) new (n', q) (lookup_memG e) (List.mem_map.mpr ⟨_, lookup_memG hb, rfl⟩)).elim
  intro c hc
  unfold crC at hc
  simp only [List.mem_append, List.mem_cons, List.not_mem_nil, or_false] at hc
  rcases hc with ((((rfl | rfl | rfl | rfl | rfl) | (rfl | rfl)) | (rfl | rfl | rfl)) | hc)
  · exact ⟨fun ks k1 k2 => less ks gc gm k1, by simp [hC, hS, hm], by simp [zC]⟩
  · exact ⟨fun ks k1 k2 => by
      show (okC F .yes ks && okC F (.is (.col n) m) ks) = true
      rw [is_ ks gc gm k1]; rfl, by simp [hC, hS, hm], by simp [zC]⟩
  · exact ⟨fun ks k1 k2 => is_ ks gc gm k1, by simp [hC, hS, hm], by simp [zC]⟩
  · exact ⟨fun ks k1 k2 => rfl, by simp [hC], by simp [zC]⟩
  · exact ⟨fun ks k1 k2 => isn ks gc k1, by simp [hC, hS], by simp [zC]⟩
  · exact ⟨fun ks k1 k2 => by
      show (okC F (.isn (.col n)) ks && okC F (.less m (.col n)) ks) = true
      rw [isn ks gc k1, less ks gm gc k1]; rfl, by simp [hC, hS, hm], by simp [zC]⟩
  · exact ⟨fun ks k1 k2 => rfl, by simp [hC], by simp [zC]⟩
  · exact ⟨fun ks k1 k2 => som_ok t675 (known_nin k2 (by omega) n675) (less _ gc gm (kapp ks _ k1 k2 n675)), by simp [hC, hA, hS, hm], by simp [zC, zA]⟩
  · refine ⟨fun ks k1 k2 => som_ok (cs := srt (bothCs .lack (tabCs t 675) (tabCs t 674))) (both_cols t675 t674 (nd_app' d675 d674 (fun p hp r e => ?_) n675) rfl) (known_nin k2 (show 673 < 675 by omega) fun p hp => n675 p ((srt_perm _).mem_iff.mp hp)) rfl, by simp [hC, hA], by simp [zC, zA]⟩
    obtain ⟨r', e'⟩ := n674 p hp
    rw [e'] at e
    exact absurd (alias_inj (dot_split e).1) (by decide)
  · refine ⟨fun ks k1 k2 => som_ok (cs := tabCs t 675) ?_ (known_nin k2 (by omega) n675) rfl, by simp [hC, hA], by simp [zC, zA]⟩
    unfold colsA rawA
    rw [raw_of t675]
    simp [cols_srt t675]
  · cases kd with
    | txt => simp at hc
    | num =>
      simp at hc
      rcases hc with rfl | rfl | rfl
      · refine ⟨fun ks k1 k2 => ?_, by simp [hC, hS, hm], by simp [zC]⟩
        obtain ⟨b1, e1⟩ := gc.kind k1
        obtain ⟨b2, e2⟩ := gm.kind k1
        unfold okC kindIn
        unfold kindIn at e1
        simp only [kindIn, e1, e2]
        rfl
      · refine ⟨fun ks k1 k2 => ?_, by simp [hC, hS, hm], by simp [zC]⟩
        obtain ⟨b1, e1⟩ := gc.kind k1
        unfold kindIn at e1
        simp only [okC, kindIn, e1]
        rfl
      · refine ⟨fun ks k1 k2 => ?_, by simp [hC, hS, hm], by simp [zC]⟩
        obtain ⟨b1, e1⟩ := gc.kind k1
        obtain ⟨b2, e2⟩ := gm.kind k1
        unfold kindIn at e1
        simp only [okC, kindIn, e1, e2]
        rfl
end
/-- the list of asks -/
def crA (ask : Ak) (t : Tb) (n : S) (m : Sm) (num : Bool) (six : List Cd) (cj ch : Cd) : List Ak :=
  ([.both .left ask (.table t.name (aliasN 675)) .yes, .both .lack ask (.table t.name (aliasN 675)) .yes, .group ask [n], .first ask 3, .pick ask (.both (.isn (.col n)) (.not (.isn m)))] ++ six.map (fun c => .pick ask c) ++
  [.both .join ask (.table t.name (aliasN 673)) cj, .both .half ask (.table t.name (aliasN 673)) ch]) ++ (if num then [.shw ask [(n, .rek .plus (.col n) (.num 1))]] else [])
section
variable {F : Fr} {a0 : Nat} (gF : FrG a0 F) {t : Tb} (ht : t ∈ F.tabs) {ds : List (S × Kd)} {n : S} {kd : Kd} {m : Sm} (hn : (n, kd) ∈ ds) (gm : SumG ds kd m)
include gF ht hn gm in
theorem crA_ok {j : Nat} {ask : Ak} {cs : Cols} {rr ll : Nat} (hj : j < 640) (g : AkG F j ask cs 10 3328 rr ll) (hd : List.Perm ds (cs.map pr)) {six : List Cd} {cj ch : Cd} (h6 : ∀ c ∈ six, CrG F ds c) (hcj : CrG F ds cj) (hch : CrG F ds ch) :
    ∀ o ∈ crA ask t n m (kd == .num) six cj ch, OkA F o 12 3400 := by
  have gc : SumG ds kd (.col n) := hn
  have hm := gm.hS
  have ndc := (cols_ok gF.ok g.cols).1
  have kin := kin_perm hd ndc
  have gh := g.h
  have gz := g.z
  have off := off_known g.nm (by omega)
  have t675 := tab_cols gF ht (i := 675) (by omega)
  have n675 := tab_new gF ht (i := 675) (by omega)
  have d675 := tab_nd gF ht (i := 675) (by omega)
  have t673 := tab_cols gF ht (i := 673) (by omega)
  have n673 := tab_new gF ht (i := 673) (by omega)
  have d673 := tab_nd gF ht (i := 673) (by omega)
  have kn673 := (tab_good gF ht (j := 673) (by omega)).1.nm
  have k673 : Known 673 cs := fun p hp => (g.nm p hp).mono (by omega)
  have nd5 : ((cs ++ tabCs t 675).map (·.1)).Nodup := nd_app ndc d675 (known_off g.nm (by omega)) n675
  have nd3 : ((cs ++ tabCs t 673).map (·.1)).Nodup := nd_app ndc d673 (known_off g.nm (by omega)) n673
  have kn3 : Known 673 (cs ++ tabCs t 673) := fun p hp => by
    rcases List.mem_append.mp hp with hp | hp
    · exact k673 p hp
    · exact kn673 p hp
  have o5 : Off (tabCs t 675) := off_tab (by decide) n675
  have o3 : Off (tabCs t 673) := off_tab (by decide) n673
  obtain ⟨bn, hbn⟩ := kin n kd hn
  have memn : (n, kd, bn) ∈ cs := lookup_memG hbn
  intro o ho
  unfold crA at ho
  simp only [List.mem_append, List.mem_cons, List.not_mem_nil, or_false, List.mem_map] at ho
  rcases ho with ((((rfl | rfl | rfl | rfl | rfl) | ⟨c, hc, rfl⟩) | (rfl | rfl)) | ho)
  · exact ⟨⟨_, both_cols g.cols t675 nd5 rfl, off_srt (off_both off o5)⟩, by simp [hA, hC]; omega, by simp [zA, zC]; omega⟩
  · exact ⟨⟨_, both_cols g.cols t675 nd5 rfl, off_srt (off_both off o5)⟩, by simp [hA, hC]; omega, by simp [zA, zC]; omega⟩
  · refine ⟨⟨[(n, kd, bn)], ?_, fun p hp => ?_⟩, by simp [hA]; omega, by simp [zA]; omega⟩
    · unfold colsA rawA
      rw [raw_of g.cols]
      simp [groupCs, hbn, nodupK, srt]
    · simp at hp
      subst hp
      exact off _ memn
  · refine ⟨⟨cs, ?_, off⟩, by simp [hA]; omega, by simp [zA]; omega⟩
    unfold colsA rawA
    rw [raw_of g.cols]
    simp [cols_srt g.cols]
  · refine ⟨⟨cs, pick_cols g.cols ?_, off⟩, by simp [hA, hC, hS, hm]; omega, by simp [zA, zC]; omega⟩
    obtain ⟨b1, e1⟩ := gc.kind kin
    obtain ⟨b2, e2⟩ := gm.kind kin
    show ((kindIn cs (.col n)).isSome && (kindIn cs m).isSome) = true
    rw [e1, e2]; rfl
  · have q := h6 c hc
    have := q.h
    have := q.z
    exact ⟨⟨cs, pick_cols g.cols (q.ok cs kin k673), off⟩, by simp [hA]; omega, by simp [zA]; omega⟩
  · have := hcj.h
    have := hcj.z
    exact ⟨⟨_, both_cols g.cols t673 nd3 (hcj.ok _ (kin_appL kin) kn3), off_srt (off_both off o3)⟩, by simp [hA]; omega, by simp [zA]; omega⟩
  · have := hch.h
    have := hch.z
    exact ⟨⟨_, both_cols g.cols t673 nd3 (hch.ok _ (kin_appL kin) kn3), off_srt (off_both off o3)⟩, by simp [hA]; omega, by simp [zA]; omega⟩
  · cases kd with
    | txt => simp at ho
    | num =>
      simp at ho
      subst ho
      refine ⟨⟨[(n, .num, bn)], ?_, fun p hp => ?_⟩, by simp [hA, hPs, hS]; omega, ?_⟩
      · unfold colsA rawA
        rw [raw_of g.cols]
        have hnm : isName n = true := (g.nm _ memn).name (by omega)
        simp [shownCs, hnm, kindIn, hbn, nodupK, srt]
      · simp at hp
        subst hp
        exact off _ memn
      · have := (g.nm _ memn).len
        simp at this
        simp [zA, zPs]; omega
end
def CI (hs : Hh) (F : Fr) (ds : List (S × Kd)) (ask : Ak) (w : Wl) (r : List Nat) (acc : List EV) (h' : Hh) : Prop := ∃ (six : List Cd) (w2 : Wl), acc = (six.map fun c => Ak.pick ask c).map Ak.e ∧ h' = hp w2 hs ∧ six.length + r.length = 6 ∧ (∀ c ∈ six, CrG F ds c) ∧ Stp six.length 0 w w2
section
variable {M : Mo} (H : Has M) (D : Draws M) {k : Nat} {hs : Hh} {w : Wl} {P : EV → Hh → Prop} {X : Nat → Hh → Prop} {F : Fr}
include H D
theorem one_cr (l : List Cd) (hk : 2 ≤ k) (h0 : 0 < l.length) (h1 : l.length < 1000000) (ht : w.t < TT) (q : ∀ c ∈ l, ∀ w', Stp 1 0 w w' → P c.e (hp w' hs)) : RW ((M.cx k).callF 30 [.ref 0, .lst (l.map Cd.e)] (hp w hs)) P X :=
  one_lst H D hk (by simpa using h0) (by simpa using h1) ht fun y hy w' st => by
    obtain ⟨c, hc, rfl⟩ := List.mem_map.mp hy
    exact q c hc w' st
theorem one_ak (l : List Ak) (hk : 2 ≤ k) (h0 : 0 < l.length) (h1 : l.length < 1000000) (ht : w.t < TT) (q : ∀ c ∈ l, ∀ w', Stp 1 0 w w' → P c.e (hp w' hs)) : RW ((M.cx k).callF 30 [.ref 0, .lst (l.map Ak.e)] (hp w hs)) P X :=
  one_lst H D hk (by simpa using h0) (by simpa using h1) ht fun y hy w' st => by
    obtain ⟨c, hc, rfl⟩ := List.mem_map.mp hy
    exact q c hc w' st
theorem crooked_ok {a0 j : Nat} (gF : FrG a0 F) {ask : Ak} {cs : Cols} {rr ll : Nat} (hk : 20 ≤ k) (hj : j < 640) (g : AkG F j ask cs 10 3328 rr ll) (hl : ll < 64) (ht : w.t + 20 < TT) (q : ∀ o, OkA F o 12 3400 → ∀ w', Stp 20 0 w w' → P o.e (hp w' hs)) :
    RW ((M.cx k).callF 45 [.ref 0, F.e, ask.e] (hp w hs)) P X := by
  rw [call_of (H.df 45 f_law_crooked (by decide) (by decide) rfl) (by omega)]
  refine RW_run rfl ?_
  have ixF : ∀ h, opIdx F.e (.int 0) h = .ok (.tup (F.tabs.map Tb.e)) h := fun h => ix_t0 _ _ _
  have ix0 : ∀ (u : Tb) h, opIdx u.e (.int 0) h = .ok (.str u.name) h := fun u h => ix_t0 _ _ _
  obtain ⟨ds, hd1, hd2⟩ := kinds_good H (h := hp w hs) gF g (k := k - 1) (by omega) (by omega)
  have ndc := (cols_ok gF.ok g.cols).1
  have nd : (ds.map (·.1)).Nodup := (perm_names hd2).nodup_iff.mpr ndc
  have gl := g.l
  have dl : ds.length < 64 := by
    have := hd2.length_eq
    rw [List.length_map] at this
    omega
  have dpos : 0 < ds.length := by
    have this := hd2.length_eq
    rw [List.length_map] at this
    have := g.ne
    cases cs with
    | nil => exact (this rfl).elim
    | cons a r => simp at *; omega
  obtain ⟨ms, mp, me⟩ := sorted_eD kS dl
  have mlen : ms.length = ds.length := by rw [mp.length_eq, List.length_map]
  have fne := gF.ne
  have ffew := gF.few
  simp [f_law_crooked, startE, hd1, ixF]
  refine one_tup H D (by omega) (by simpa using fne) (by simp; omega) (by omega) fun y hy w1 s1 => ?_
  obtain ⟨t, ht1, rfl⟩ := List.mem_map.mp hy
  have b1 := s1.hi
  simp [ix0, me]
  refine one_lst H D (by omega) (by simp; omega) (by simp; omega) (by omega) fun y hy w2 s2 => ?_
  obtain ⟨n, hn, rfl⟩ := List.mem_map.mp hy
  obtain ⟨⟨n', kd⟩, hn2, e1⟩ := List.mem_map.mp (mp.mem_iff.mp hn)
  simp at e1; subst e1
  have lk := lookup_ofG nd hn2
  have b2 := s2.hi
  simp [lk, kS]
  refine sum_ok H D (by omega) nd (by omega) (by omega) fun m gm w3 s3 => ?_
  have b3 := s3.hi
  have s123 := (s1.trans s2).trans s3
  cases kd with
  | num =>
    have cr := crC_ok gF ht1 hn2 gm
    have fin := fun six cj ch h6 h7 h8 => crA_ok (six := six) (cj := cj) (ch := ch) gF ht1 hn2 gm hj g hd2 h6 h7 h8
    have r6 : rangeF 0 6 = (List.range' 0 6).map fun j : Nat => EV.int j := rangeF_eq 6 0
    simp [Kd.s, r6, small62]
    refine RW_comps (fun j : Nat => EV.int j) (CI hs F ds ask w3) (List.range' 0 6) ⟨[], w3, rfl, rfl, by simp, by simp, Stp.refl w3⟩ ?_ ?_
    · rintro x r acc h' ⟨six, w4, rfl, rfl, i1, i2, s4⟩
      have b4 := s4.hi
      simp only [List.length_cons] at i1
      refine ⟨by have : L = 16777216 := rfl; simp; omega, _, rfl, ?_⟩
      simp
      refine one_cr H D (crC t n' m true) (by omega) (by show 0 < 13; omega) (by show 13 < 1000000; omega) (by omega) fun c hc w5 s5 => ?_
      exact ⟨six ++ [c], w5, by simp [Ak.e], rfl, by simp; omega, fun d hd => by
        rcases List.mem_append.mp hd with hd | hd
        · exact i2 d hd
        · simp at hd; subst hd; exact cr _ hc, (s4.trans s5).le (by simp) (by omega)⟩
    · rintro acc h' ⟨six, w4, rfl, rfl, i1, i2, s4⟩
      have b4 := s4.hi
      simp at i1
      simp [i1]
      refine one_cr H D (crC t n' m true) (by omega) (by show 0 < 13; omega) (by show 13 < 1000000; omega) (by omega) fun cj hcj w5 s5 => ?_
      have b5 := s5.hi
      refine one_cr H D (crC t n' m true) (by omega) (by show 0 < 13; omega) (by show 13 < 1000000; omega) (by omega) fun ch hch w6 s6 => ?_
      have b6 := s6.hi
      simp [lk, kS, Kd.s, i1]
      have fin2 := one_ak H D (P := fun v h => P v h) (X := X) (hs := hs) (w := w6) (crA ask t n' m true six cj ch) (k := k - 1) (by omega) (by unfold crA; simp) (by unfold crA; simp [i1]) (by omega) fun o ho w7 s7 =>
        q o (fin six cj ch i2 (cr _ hcj) (cr _ hch) o ho) w7 ((((s123.trans s4).trans s5).trans s6).trans s7 |>.le (by simp [i1]) (by omega))
      simp only [crA, List.map_append, List.map_cons, List.map_nil, if_true, Bool.false_eq_true, if_false, List.map_map, List.cons_append, List.nil_append, List.append_assoc, List.append_nil] at fin2
      exact fin2
  | txt =>
    have cr := crC_ok gF ht1 hn2 gm
    have fin := fun six cj ch h6 h7 h8 => crA_ok (six := six) (cj := cj) (ch := ch) gF ht1 hn2 gm hj g hd2 h6 h7 h8
    have r6 : rangeF 0 6 = (List.range' 0 6).map fun j : Nat => EV.int j := rangeF_eq 6 0
    simp [Kd.s, r6, small62]
    refine RW_comps (fun j : Nat => EV.int j) (CI hs F ds ask w3) (List.range' 0 6) ⟨[], w3, rfl, rfl, by simp, by simp, Stp.refl w3⟩ ?_ ?_
    · rintro x r acc h' ⟨six, w4, rfl, rfl, i1, i2, s4⟩
      have b4 := s4.hi
      simp only [List.length_cons] at i1
      refine ⟨by have : L = 16777216 := rfl; simp; omega, _, rfl, ?_⟩
      simp
      refine one_cr H D (crC t n' m false) (by omega) (by show 0 < 10; omega) (by show 10 < 1000000; omega) (by omega) fun c hc w5 s5 => ?_
      exact ⟨six ++ [c], w5, by simp [Ak.e], rfl, by simp; omega, fun d hd => by
        rcases List.mem_append.mp hd with hd | hd
        · exact i2 d hd
        · simp at hd; subst hd; exact cr _ hc, (s4.trans s5).le (by simp) (by omega)⟩
    · rintro acc h' ⟨six, w4, rfl, rfl, i1, i2, s4⟩
      have b4 := s4.hi
      simp at i1
      simp [i1]
      refine one_cr H D (crC t n' m false) (by omega) (by show 0 < 10; omega) (by show 10 < 1000000; omega) (by omega) fun cj hcj w5 s5 => ?_
      have b5 := s5.hi
      refine one_cr H D (crC t n' m false) (by omega) (by show 0 < 10; omega) (by show 10 < 1000000; omega) (by omega) fun ch hch w6 s6 => ?_
      have b6 := s6.hi
      simp [lk, kS, Kd.s, i1]
      have fin2 := one_ak H D (P := fun v h => P v h) (X := X) (hs := hs) (w := w6) (crA ask t n' m false six cj ch) (k := k - 1) (by omega) (by unfold crA; simp) (by unfold crA; simp [i1]) (by omega) fun o ho w7 s7 =>
        q o (fin six cj ch i2 (cr _ hcj) (cr _ hch) o ho) w7 ((((s123.trans s4).trans s5).trans s6).trans s7 |>.le (by simp [i1]) (by omega))
      simp only [crA, List.map_append, List.map_cons, List.map_nil, if_true, Bool.false_eq_true, if_false, List.map_map, List.cons_append, List.nil_append, List.append_assoc, List.append_nil] at fin2
      exact fin2
end
end Pl
end
section
set_option autoImplicit false
set_option linter.all false
set_option maxRecDepth 100000
set_option maxHeartbeats 4000000
/-! P15: the law's run. -/
namespace Pl
open Ev K64
section
variable {M : Mo} (H : Has M) (D : Draws M) {k : Nat} {hs : Hh} {w : Wl} {P : EV → Hh → Prop} {X : Nat → Hh → Prop} {F : Fr} {h : Hh}
include H
structure Fine (F : Fr) (o : Ak) : Prop where
  cols : ∃ cs, colsA F o = some cs
  h : hA o ≤ 15
  z : zA o ≤ 7000
include D in
theorem within_ok {a0 : Nat} (gF : FrG a0 F) {o : Ak} (g : OkA F o 12 3400) (hk : 4 ≤ k) (ht : w.t + 2 < TT) (q : ∀ o, Fine F o → ∀ w', Stp 2 0 w w' → P o.e (hp w' hs)) : RW ((M.cx k).callF 46 [.ref 0, F.e, o.e] (hp w hs)) P X := by
  rw [call_of (H.df 46 f_law_within (by decide) (by decide) rfl) (by omega)]
  refine RW_run rfl ?_
  have ixF : ∀ h, opIdx F.e (.int 0) h = .ok (.tup (F.tabs.map Tb.e)) h := fun h => ix_t0 _ _ _
  have ix0 : ∀ (u : Tb) h, opIdx u.e (.int 0) h = .ok (.str u.name) h := fun u h => ix_t0 _ _ _
  have fne := gF.ne
  have ffew := gF.few
  simp [f_law_within, startE, ixF]
  refine one_tup H D (by omega) (by simpa using fne) (by simp; omega) (by omega) fun y hy w1 s1 => ?_
  obtain ⟨t, ht1, rfl⟩ := List.mem_map.mp hy
  have b1 := s1.hi
  simp [ix0]
  refine D.ok (m := 6) (by omega) (by omega) (by omega) (by omega) fun r w2 hr s2 => ?_
  have st : Stp 2 0 w w2 := (s1.trans s2).le (by omega) (by omega)
  obtain ⟨cs, hc, off⟩ := g.cols
  have gh := g.h
  have gz := g.z
  have t6 := tab_cols gF ht1 (i := 648) (by omega)
  have n6 := tab_new gF ht1 (i := 648) (by omega)
  have d6 := tab_nd gF ht1 (i := 648) (by omega)
  have ndc := (cols_ok gF.ok hc).1
  have nd : ((tabCs t 648 ++ cs).map (·.1)).Nodup := nd_app' d6 ndc off n6
  have once : Fine F (.once o) := ⟨⟨cs, by unfold colsA rawA; rw [raw_of hc]; simp [cols_srt hc]⟩, by simp [hA]; omega, by simp [zA]; omega⟩
  have join : Fine F (.both .join (.table t.name (aliasN 648)) o .yes) := ⟨⟨_, both_cols t6 hc nd rfl⟩, by simp [hA, hC]; omega, by simp [zA, zC]; omega⟩
  have half : Fine F (.both .half (.table t.name (aliasN 648)) o .yes) := ⟨⟨_, both_cols t6 hc nd rfl⟩, by simp [hA, hC]; omega, by simp [zA, zC]; omega⟩
  have add : Fine F (.add o o) := ⟨⟨cs, by unfold colsA rawA; rw [raw_of hc]; simp [addCs_self, cols_srt hc]⟩, by simp [hA]; omega, by simp [zA]; omega⟩
  have pick : Fine F (.pick (.table t.name (aliasN 648)) (.som o .yes)) := ⟨⟨_, pick_cols t6 (som_ok hc (fun p hp hm => by
    obtain ⟨q, hq, e⟩ := List.mem_map.mp hm
    obtain ⟨r, hr⟩ := n6 q hq
    exact off p hp r (e.symm.trans hr)) rfl)⟩, by simp [hA, hC]; omega, by simp [zA, zC]; omega⟩
  have self : Fine F o := ⟨⟨cs, hc⟩, by omega, by omega⟩
  match r, hr with
  | 0, _ => simp; exact q _ once w2 st
  | 1, _ => simp; exact q _ join w2 st
  | 2, _ => simp; exact q _ half w2 st
  | 3, _ => simp; exact q _ add w2 st
  | 4, _ => simp; exact q _ pick w2 st
  | 5, _ => simp; exact q _ self w2 st
/-- what is no ask, by its form -/
theorem columns_not {v : EV} (hk : 1 ≤ k) (e : ∀ h, runBi (.isinst .tuple) [v] h = .ok (.bl false) h) (hk2 : 2 ≤ k) : (M.cx k).callF 21 [F.e, v] h = .exc 0 h := by
  rw [call_of (H.df 21 f_columns (by decide) (by decide) rfl) (by omega)]
  refine RW_is (RW_run rfl ?_)
  have hn : ∀ b, (M.cx (k - 1)).callF 7 [.bl b] h = resB b h := fun b => need_ok H (by omega)
  simp [f_columns, startE, e, hn]
theorem columns_emp (hk : 2 ≤ k) : (M.cx k).callF 21 [F.e, .tup []] h = .exc 0 h := by
  rw [call_of (H.df 21 f_columns (by decide) (by decide) rfl) (by omega)]
  refine RW_is (RW_run rfl ?_)
  have hn : ∀ b, (M.cx (k - 1)).callF 7 [.bl b] h = resB b h := fun b => need_ok H (by omega)
  simp [f_columns, startE, hn]
theorem columns_size {wd : S} {rest : List EV} {n : Int} (hk : 2 ≤ k) (sh : shps 59 rest = true) (hm : decide (K0.s wd ∈ D0.1) = true) (hg : dget D0.1 D0.2 (.s wd) = some (.int n)) (hl : (((EV.str wd :: rest).length : Int) == n) = false) : (M.cx k).callF 21 [F.e, .tup (.str wd :: rest)] h = .exc 0 h := by
  rw [call_of (H.df 21 f_columns (by decide) (by decide) rfl) (by omega)]
  refine RW_is (RW_run rfl ?_)
  have hn : ∀ b, (M.cx (k - 1)).callF 7 [.bl b] h = resB b h := fun b => need_ok H (by omega)
  have s1 := of_decide_eq_true hm
  have hl2 : (((rest.length : Int) + 1) == n) = false := by simpa using hl
  simp [f_columns, startE, sh, hn, dc0 H, s1, hg, hl2]
theorem straight_not {v : EV} (hk : 2 ≤ k) (e : (M.cx (k - 1)).callF 21 [F.e, v] h = .exc 0 h) : (M.cx k).callF 27 [F.e, v] h = .exc 0 h := by
  rw [call_of (H.df 27 f_is_straight (by decide) (by decide) rfl) (by omega)]
  refine RW_is (RW_run rfl ?_)
  simp [f_is_straight, startE, e]
end
section
variable {Q : Hh → Prop} {X : Nat → Hh → Prop}
theorem RW_heard {cf : Nat → List EV → Hh → Res EV} {one str : Nat} {w b f : EV} {h : Hh} (q : RW (cf one [w, b] h) (fun v h' => cf str [f, v] h' = .exc 0 h' ∧ Q h') NoX) : RW (heard cf one str w b f h) (fun r h' => r = .tup [.str [97, 115, 107]] ∧ Q h') X := by
  unfold heard
  revert q
  cases cf one [w, b] h with
  | ok v h1 =>
    intro q
    obtain ⟨q1, q2⟩ := q
    simp only [Res.bind_ok, q1]
    exact ⟨rfl, q2⟩
  | exc c h1 => exact fun z => z.elim
  | bad => exact fun z => (show False from z).elim
end
/-! ### begun -/
theorem cut63 (xs : List EV) : cut xs none (some 63) = xs.take 63 := cut_take xs 63
section
variable {M : Mo} (H : Has M) (D : Draws M) {k : Nat} {P : EV → Hh → Prop} {X : Nat → Hh → Prop}
include H
theorem well_ok {xs : List Int} {h : Hh} (hk : 1 ≤ k) : (M.cx k).callF 28 [.fro (xs.map .int)] h = .ok (.lst [.lst ((xs.take 63).map .int), .int 0, .int 0]) h := by
  rw [call_of (H.df 28 f_law_well (by decide) (by decide) rfl) (by omega)]
  refine RW_eq (RW_run rfl ?_)
  have e : opCut (.fro (xs.map .int)) none (some 63) h = .ok (.lst ((xs.take 63).map .int)) h := by
    show Res.ok (EV.lst (cut (xs.map EV.int) none (some 63))) h = _
    rw [cut63, List.map_take]
  simp [f_law_well, startE, e]
  have l : ((xs.map EV.int).take 63).length ≤ L := by
    have : L = 16777216 := rfl
    rw [List.length_take]; omega
  rw [← List.map_take] at l ⊢
  rw [comps_map (f := fun i : Int => .int i) _ _ (by simpa using l) (fun c hc => ⟨_, rfl, by simp⟩)]
  simp
include D in
theorem begun_ok {xs : List Int} (hk : 3 ≤ k) (q : ∀ w : Wl, w.a < 4 → w.t ≤ 1 → w.c = 0 → P (.ref 0) (hp w [])) : RW ((M.cx k).callF 32 [.fro (xs.map .int)] []) P X := by
  rw [call_of (H.df 32 f_law_begun (by decide) (by decide) rfl) (by omega)]
  refine RW_run rfl ?_
  have w0 := well_ok H (h := []) (k := k - 1) (xs := xs) (by omega)
  simp [f_law_begun, startE, w0]
  have e : ([[EV.lst ((xs.map EV.int).take 63), .int 0, .int 0, .int 0, .int 0, .int 0]] : Hh) = hp ⟨xs.take 63, 0, 0, 0, 0, 0⟩ [] := by
    unfold hp Wl.e
    simp [List.map_take]
  have e' : ([[EV.lst ((xs.take 63).map EV.int), .int 0, .int 0, .int 0, .int 0, .int 0]] : Hh) = hp ⟨xs.take 63, 0, 0, 0, 0, 0⟩ [] := by
    unfold hp Wl.e
    simp
  first | rw [e] | rw [e']
  refine D.ok (m := 4) (by omega) (by omega) (by omega) (by show 0 < TT; decide) fun r w1 hr s1 => ?_
  simp
  refine q { w1 with a := r } hr ?_ ?_
  · have := s1.hi; simpa using this
  · have := s1.cl; have := s1.ch; simp at *; omega
end
/-! ### what repr is told of -/
theorem cols_rok (cs : Cols) : roks (cs.map eCol) = true := roks_of _ fun x hx => by
  obtain ⟨c, _, rfl⟩ := List.mem_map.mp hx
  rfl
theorem strs_rok (ns : List S) : roks (ns.map EV.str) = true := roks_of _ fun x hx => by
  obtain ⟨c, _, rfl⟩ := List.mem_map.mp hx
  rfl
theorem Kd.s_len (k : Kd) : k.s.length ≤ 6 := by cases k <;> decide
theorem tb_rok (t : Tb) : rok t.e = true := by
  show roks _ = true
  have h1 : roks (t.keys.map fun k => EV.tup (k.map .str)) = true := roks_of _ fun x hx => by
    obtain ⟨c, _, rfl⟩ := List.mem_map.mp hx
    exact strs_rok c
  simp [roks, rok, cols_rok, h1]
theorem tb_rsz {a n : Nat} {t : Tb} (g : TbG a n t) : rsz t.e ≤ 3000 := by
  have l1 := lett_len a (4 * n + 3)
  rw [← g.name] at l1
  have wd : ∀ c ∈ t.fields, c.1.length ≤ 4 := fun c hc => by
    obtain ⟨i, hi⟩ := List.getElem?_of_mem hc
    rw [g.flds i c hi]
    exact lett_len _ _
  have f1 := rszs_le (t.fields.map eCol) 300 (fun x hx => by
    obtain ⟨c, hc, rfl⟩ := List.mem_map.mp hx
    have := wd c hc
    have := Kd.s_len c.2.1
    show rszs _ + 8 ≤ _
    simp [rszs, Ev.rsz]
    omega)
  have f2 := rszs_le (t.keys.map fun k => EV.tup (k.map .str)) 200 (fun x hx => by
    obtain ⟨key, hk, rfl⟩ := List.mem_map.mp hx
    obtain ⟨k1, k2⟩ := g.key key hk
    have := rszs_le (key.map EV.str) 48 (fun y hy => by
      obtain ⟨s, hs, rfl⟩ := List.mem_map.mp hy
      obtain ⟨c, hc, rfl, _⟩ := k2 s hs
      have := wd c hc
      show 10 * c.1.length + 8 ≤ _
      omega)
    rw [List.length_map] at this
    show rszs _ + 8 ≤ _
    omega)
  have := g.few
  have := g.klen
  rw [List.length_map] at f1 f2
  show rszs _ + 8 ≤ _
  simp [rszs, Ev.rsz]
  omega
theorem pt_good {a : Nat} {F : Fr} (g : FrG a F) {p : Pt} (hp : PtG F.tabs p) : rok p.e = true ∧ rsz p.e ≤ 1000 ∧ shp 2 p.e = true := by
  obtain ⟨t, ht, u, hu, e1, e2, e3, e4, e5⟩ := hp
  obtain ⟨i, hi, tg⟩ := g.mem ht
  obtain ⟨j, hj, ug⟩ := g.mem hu
  have wt : ∀ c ∈ t.fields, c.1.length ≤ 4 := fun c hc => by
    obtain ⟨i, hi⟩ := List.getElem?_of_mem hc
    rw [tg.flds i c hi]
    exact lett_len _ _
  have wu : ∀ c ∈ u.fields, c.1.length ≤ 4 := fun c hc => by
    obtain ⟨i, hi⟩ := List.getElem?_of_mem hc
    rw [ug.flds i c hi]
    exact lett_len _ _
  have l1 := lett_len a (4 * i + 3)
  rw [← tg.name, ← e1] at l1
  have l2 := lett_len a (4 * j + 3)
  rw [← ug.name, ← e2] at l2
  obtain ⟨k1, k2⟩ := ug.key p.key e3
  refine ⟨?_, ?_, ?_⟩
  · show roks _ = true
    simp [roks, rok, strs_rok]
  · have f1 := rszs_le (p.cols.map EV.str) 48 (fun y hy => by
      obtain ⟨s, hs, rfl⟩ := List.mem_map.mp hy
      obtain ⟨c, hc, rfl⟩ := e5 s hs
      have := wt c hc
      show 10 * c.1.length + 8 ≤ _
      omega)
    have f2 := rszs_le (p.key.map EV.str) 48 (fun y hy => by
      obtain ⟨s, hs, rfl⟩ := List.mem_map.mp hy
      obtain ⟨c, hc, rfl, _⟩ := k2 s hs
      have := wu c hc
      show 10 * c.1.length + 8 ≤ _
      omega)
    rw [List.length_map] at f1 f2
    show rszs _ + 8 ≤ _
    simp [rszs, Ev.rsz]
    omega
  · show shps 1 _ = true
    have h1 : shp 1 (.tup (p.cols.map .str)) = true := shps_all fun x hx => by
      obtain ⟨c, _, rfl⟩ := List.mem_map.mp hx
      simp
    have h2 : shp 1 (.tup (p.key.map .str)) = true := shps_all fun x hx => by
      obtain ⟨c, _, rfl⟩ := List.mem_map.mp hx
      simp
    simp [h1, h2]
theorem fr_good {a : Nat} {F : Fr} (g : FrG a F) : rok F.e = true ∧ rsz F.e ≤ 20000 ∧ shp 5 F.e = true := by
  obtain ⟨ps, e, pl, pg⟩ := g.pts
  have few := g.few
  refine ⟨?_, ?_, ?_⟩
  · show roks _ = true
    have h1 : roks (F.tabs.map Tb.e) = true := roks_of _ fun x hx => by
      obtain ⟨t, _, rfl⟩ := List.mem_map.mp hx
      exact tb_rok t
    have h2 : roks (ps.map Pt.e) = true := roks_of _ fun x hx => by
      obtain ⟨p, hp, rfl⟩ := List.mem_map.mp hx
      exact (pt_good g (pg p hp)).1
    simp [roks, rok, e, h1, h2]
  · have f1 := rszs_le (F.tabs.map Tb.e) 3000 (fun x hx => by
      obtain ⟨t, ht, rfl⟩ := List.mem_map.mp hx
      obtain ⟨i, hi, tg⟩ := g.mem ht
      exact tb_rsz tg)
    have f2 := rszs_le (ps.map Pt.e) 1000 (fun x hx => by
      obtain ⟨p, hp, rfl⟩ := List.mem_map.mp hx
      exact (pt_good g (pg p hp)).2.1)
    rw [List.length_map] at f1 f2
    show rszs _ + 8 ≤ _
    simp [rszs, Ev.rsz, e]
    omega
  · show shps 4 _ = true
    have h1 : shp 4 (.tup (F.tabs.map Tb.e)) = true := shps_all fun x hx => by
      obtain ⟨t, _, rfl⟩ := List.mem_map.mp hx
      show shps 2 _ = true
      have h1 : shp 2 (.tup (t.fields.map eCol)) = true := shps_all fun x hx => by
        obtain ⟨c, _, rfl⟩ := List.mem_map.mp hx
        rfl
      have h2 : shp 2 (.tup (t.keys.map fun k => .tup (k.map .str))) = true := shps_all fun x hx => by
        obtain ⟨k, _, rfl⟩ := List.mem_map.mp hx
        exact shps_all fun x hx => by
          obtain ⟨c, _, rfl⟩ := List.mem_map.mp hx
          simp
      simp [h1, h2]
    have h2 : shp 4 (.tup (ps.map Pt.e)) = true := shps_all fun x hx => by
      obtain ⟨p, hp, rfl⟩ := List.mem_map.mp hx
      exact shp_mono _ (show 2 ≤ 3 by omega) (pt_good g (pg p hp)).2.2
    rw [e]
    simp [h1, h2]
/-! a thing that repr is told of is the same as itself -/
mutual
theorem same_self : ∀ (v : EV), rok v = true → samE v v = true
  | .non, _ => rfl
  | .bl b, _ => by unfold samE; simp
  | .int i, _ => by unfold samE; simp
  | .str s, _ => by unfold samE; simp
  | .tup xs, h => same_selfs xs h
  | .lst _, h => by cases h
  | .dct _ _, h => by cases h
  | .fro _, h => by cases h
  | .ref _, h => by cases h
  | .rep _, h => by cases h
theorem same_selfs : ∀ (v : List EV), roks v = true → samEs v v = true
  | [], _ => rfl
  | x :: xs, h => by
    simp only [roks, Bool.and_eq_true] at h
    show (samE x x && samEs xs xs) = true
    rw [same_self x h.1, same_selfs xs h.2]; rfl
end
theorem repEq_self {xs : List EV} (h : roks xs = true) : repEq (.tup xs) (.tup xs) = some true := by
  unfold repEq
  have : samE (.tup xs) (.tup xs) = true := same_selfs xs h
  simp [this]
end Pl
end
section
set_option autoImplicit false
set_option linter.all false
set_option maxRecDepth 100000
set_option maxHeartbeats 4000000
/-! P16: law_k64's run ends with True. -/
namespace Pl
open Ev K64
section
variable {M : Mo} (H : Has M) (D : Draws M) {k : Nat} {F : Fr} {h : Hh}
include H
/-- the asks that are none: each is refused -/
theorem bad_ok {a0 j : Nat} (gF : FrG a0 F) {ask : Ak} {cs : Cols} {zz rr ll : Nat} (hj : j < 640) (g : AkG F j ask cs 10 zz rr ll) (hz : zz ≤ 10000) (hk : 60 ≤ k) {t0 : Tb} {nm : S} {kd : Kd} {rest : Cols} {tr : List Tb} (e0 : F.tabs = t0 :: tr) (ef : t0.fields = (nm, kd, false) :: rest) {wrong : Sm} (hw : wrong = if kd = .num then .txt [97] else .num 1) :
    ∀ v ∈ [EV.non, .int 5, .str [116, 97, 98, 108, 101], .tup [], .lst [.str [116, 97, 98, 108, 101], .str t0.name, .str [97, 98]], .tup [.str [116, 97, 98, 108, 101], .str [110, 111, 110, 101], .str [97, 98]], .tup [.str [111, 110, 99, 101], ask.e, ask.e],
      .tup [.str [112, 105, 99, 107], ask.e, .tup [.str [105, 115], .tup [.str [99, 111, 108, 117, 109, 110], .str [110, 111]], .tup [.str [110, 117, 109, 98, 101, 114], .int 1]]],
      .tup [.str [112, 105, 99, 107], .tup [.str [116, 97, 98, 108, 101], .str t0.name, .str [97, 98]], .tup [.str [105, 115], .tup [.str [99, 111, 108, 117, 109, 110], .str ([97, 98, 46] ++ nm)], wrong.e]],
      .tup [.str [106, 111, 105, 110], ask.e, ask.e, .tup [.str [121, 101, 115]]], .tup [.str [97, 100, 100], ask.e]], (M.cx k).callF 27 [F.e, v] h = .exc 0 h := by
  have gh := g.h
  have gz := g.z
  have ht0 : t0 ∈ F.tabs := by rw [e0]; simp
  have sa : shp 58 ask.e = true := shp_mono _ (by omega) (shpA ask)
  have sa9 : shp 59 ask.e = true := shp_mono _ (by omega) (shpA ask)
  have LL : L = 16777216 := rfl
  have hS1 : hS wrong = 1 := by subst hw; split <;> rfl
  intro v hv
  simp only [List.mem_cons, List.not_mem_nil, or_false] at hv
  rcases hv with rfl | rfl | rfl | rfl | rfl | rfl | rfl | rfl | rfl | rfl | rfl
  · exact straight_not H (by omega) (columns_not H (by omega) (fun h => rfl) (by omega))
  · exact straight_not H (by omega) (columns_not H (by omega) (fun h => rfl) (by omega))
  · exact straight_not H (by omega) (columns_not H (by omega) (fun h => rfl) (by omega))
  · exact straight_not H (by omega) (columns_emp H (by omega))
  · exact straight_not H (by omega) (columns_not H (by omega) (fun h => rfl) (by omega))
  · refine straight_no H gF.ok (a := .table [110, 111, 110, 101] (aliasN 1)) ?_ (by decide) (by show 16 ≤ L; omega) (by show 3 * 1 + 7 ≤ k; omega)
    unfold colsA rawA
    have : F.tabs.find? (fun t => t.name == ([110, 111, 110, 101] : S)) = none := by
      rw [List.find?_eq_none]
      intro t ht
      obtain ⟨i, hi, tg⟩ := gF.mem ht
      rw [tg.name]
      have : ∀ a n : Nat, lett a n ≠ [110, 111, 110, 101] := fun a n => by
        unfold lett
        split <;> simp
      simpa using this _ _
    rw [this]; rfl
  · exact straight_not H (by omega) (columns_size H (n := 2) (by omega) (by simp [sa9]) (by decide) rfl rfl)
  · refine straight_no H gF.ok (a := .pick ask (.is (.col [110, 111]) (.num 1))) ?_ (by simp [hA, hC, hS]; omega) (by simp [zA, zC]; omega) (by simp [hA, hC, hS]; omega)
    unfold colsA rawA
    rw [raw_of g.cols]
    have : kindIn cs (.col [110, 111]) = none := by
      show cs.lookup [110, 111] = none
      cases e : cs.lookup [110, 111] with
      | none => rfl
      | some q =>
        have := g.nm _ (lookup_memG e)
        rcases this with z | ⟨i, r, _, z, _⟩
        · cases z
        · simp [aliasN] at z
    simp [okC, this]
  · refine straight_no H gF.ok (k := k) (a := .pick (.table t0.name (aliasN 1)) (.is (.col (aliasN 1 ++ [46] ++ nm)) wrong)) ?_ (by simp [hA, hC, hS, hS1]) (by show 16 + 0 ≤ L; omega) (by simp [hA, hC, hS, hS1]; omega)
    unfold colsA rawA
    have tc := tab_cols gF ht0 (i := 1) (by omega)
    rw [raw_of tc]
    have nd := tab_nd gF ht0 (i := 1) (by omega)
    have lk : (tabCs t0 1).lookup (aliasN 1 ++ [46] ++ nm) = some (kd, false) := by
      refine lookup_of nd ((srt_perm _).mem_iff.mpr (List.mem_map.mpr ⟨(nm, kd, false), by rw [ef]; simp, rfl⟩))
    subst hw
    cases kd with
    | num => simp [okC, kindIn] at lk ⊢; simp [lk, isText, isPr]
    | txt => simp [okC, kindIn] at lk ⊢; simp [lk]
  · refine straight_no H gF.ok (a := .both .join ask ask .yes) ?_ (by simp [hA, hC]; omega) (by simp [zA, zC]; omega) (by simp [hA, hC]; omega)
    unfold colsA rawA
    rw [raw_of g.cols]
    have : nodupK (cs ++ cs) = false := by
      have ne := g.ne
      cases cs with
      | nil => exact (ne rfl).elim
      | cons c r => simp [nodupK]
    simp [this]
  · exact straight_not H (by omega) (columns_size H (n := 3) (by omega) (by simp [sa9]) (by decide) rfl rfl)
end
/-- what is told apart: only a lambda that raises the class 0 -/
def specR (C Cl : Cxt) (eL eC : E) : MS := fun env h => match ev Cl eL env h with
  | .exc 0 h => (ev C eC env h).s fun v h => (match v with
    | .bl true => .rt (.bl false) h
    | .bl false => .nx env h
    | _ => .bad)
  | _ => .bad
def eLm : E := .call 27 (.cons (.var 3) (.cons (.call 30 (.cons (.var 1) (.cons (.var 8) .nil))) .nil))
def eCm : E := .cmp .ne (.bi .repr (.tup (.cons (.var 3) (.cons (.var 4) .nil)))) (.var 5)
theorem heardR {r : Res EV} {g : EV → Hh → Res EV} {Q : Hh → Prop} {P : SRes → Prop} {f : Hh → SRes} (q : RW r (fun v h' => g v h' = .exc 0 h' ∧ Q h') NoX) (c : ∀ h', Q h' → P (f h')) : P (match r.bind g with
  | .exc 0 h => f h
  | _ => .bad) := by
  revert q
  cases r with
  | ok v h1 =>
    intro q
    obtain ⟨q1, q2⟩ := q
    simp only [Res.bind_ok, q1]
    exact c _ q2
  | exc c h1 => exact fun z => z.elim
  | bad => exact fun z => (show False from z).elim
/-- the law's own context: what is told apart is the refusal -/
def lawC (M : Mo) (k : Nat) : Cxt := { M.cx k with spec := fun _ => specR (M.cx k) (M.cx (k - 2)) eLm eCm }
@[simp] theorem lawC_call (M : Mo) (k : Nat) (f : Nat) (args : List EV) (h : Hh) : (lawC M k).callF f args h = (M.cx k).callF f args h := (rfl)
@[simp] theorem lawC_spec (M : Mo) (k n : Nat) : (lawC M k).spec n = specR (M.cx k) (M.cx (k - 2)) eLm eCm := (rfl)
def LI (xs : List Int) (r : List Nat) (env : Env) (h' : Hh) : Prop := ∃ (w : Wl) (a2 a3 a4 a5 a6 a7 a8 a9 a10 a11 a12 : Option SV), env = [some (.val (.fro (xs.map .int))), some (.val (.ref 0)), a2, a3, a4, a5, a6, a7, a8, a9, a10, a11, a12] ∧ h' = hp w [] ∧ r.length ≤ 4 ∧ w.a < 4 ∧ w.t ≤ 2000 * (4 - r.length) + 1 ∧ w.c ≤ 8 * (4 - r.length)
def KI (xs : List Int) (F : Fr) (ask : Ak) (w0 : Wl) (b2 : Option SV) (r : List Nat) (env : Env) (h' : Hh) : Prop := ∃ (w : Wl) (a6 a7 a8 a9 a10 a11 a12 : Option SV), env = [some (.val (.fro (xs.map .int))), some (.val (.ref 0)), b2, some (.val F.e), some (.val ask.e), some (.val (.rep (.tup [F.e, ask.e]))), a6, a7, a8, a9, a10, a11, a12] ∧ h' = hp w [] ∧ r.length ≤ 4 ∧ Stp (25 * (4 - r.length)) 0 w0 w
section
variable {M : Mo} (H : Has M) (D : Draws M) {k : Nat}
include H D
theorem law_plain (hk : 100 ≤ k) (xs : List Int) : RW (runDf (lawC M k) f_law [.fro (xs.map .int)] []) (fun v _ => v = .bl true) NoX := by
  refine RW_run rfl ?_
  have r4 : rangeF 0 4 = (List.range' 0 4).map fun j : Nat => EV.int j := rangeF_eq 4 0
  have TTv : TT = 1000000 := rfl
  simp [f_law, startE]
  refine begun_ok H D (by omega) fun w wa wt wc => ?_
  simp [r4, small62]
  refine SW_for (fun j : Nat => EV.int j) (LI xs) (List.range' 0 4) ⟨w, none, none, none, none, none, none, none, none, none, none, none, rfl, rfl, by simp, wa, by simpa using wt, by omega⟩ ?_ ?_
  · rintro x r env h' ⟨w, a2, a3, a4, a5, a6, a7, a8, a9, a10, a11, a12, rfl, rfl, rl, wa, wt, wc⟩
    simp only [List.length_cons] at rl wt wc
    refine ⟨_, rfl, ?_⟩
    simp
    refine frame_ok H D (by omega) wa (by omega) fun F gF w1 s1 => ?_
    have b1 := s1.hi
    have c1 := s1.ch
    have a1 := s1.a
    simp
    have Td3 : Td 3 = 1480 := rfl
    have Cn3 : Cn 3 = 8 := rfl
    have dr := fun P X q => drawn_ok H D (hs := []) gF 3 (k := k) (w := { w1 with b := 0 }) (P := P) (X := X) (by omega) (by omega) (by show w1.t + _ < _; omega) (by show w1.c + _ < _; omega) q
    have c3 : ((3 : Nat) : Int) = 3 := rfl
    rw [c3] at dr
    refine dr _ _ fun ask cs w2 g s2 => ?_
    have b2 := s2.hi
    have c2 := s2.ch
    have a2' := s2.a
    simp at b2 c2 a2'
    have gh : hA ask ≤ 10 := g.h
    have gz : zA ask ≤ 2928 := g.z
    have gr : rsz ask.e ≤ 113600 + 100000 := Nat.le_trans g.r (by decide)
    have gl : Ld 3 < 64 := by decide
    obtain ⟨f1, f2, f3⟩ := fr_good gF
    have LL : L = 16777216 := rfl
    have rp : (rok (.tup [F.e, ask.e]) && shp 40 (.tup [F.e, ask.e]) && decide (rsz (.tup [F.e, ask.e]) ≤ 1000000)) = true := by
      have e1 : rok (.tup [F.e, ask.e]) = true := by
        show roks _ = true
        simp [roks, f1, g.k]
      have e2 : shp 40 (.tup [F.e, ask.e]) = true := by
        show shps 39 _ = true
        simp [shp_mono _ (show 5 ≤ 39 by omega) f3, shp_mono _ (show hA ask ≤ 39 by omega) (shpA ask)]
      have e3 : rsz (.tup [F.e, ask.e]) ≤ 1000000 := by
        show rszs _ + 8 ≤ _
        simp [rszs]
        omega
      rw [e1, e2, decide_eq_true e3]; rfl
    have rks : roks [F.e, ask.e] = true := by simp [roks, f1, g.k]
    have is1 : ∀ h, (M.cx k).callF 27 [F.e, ask.e] h = .ok (.bl true) h := fun h => by
      have := straight_ok H gF.ok g.cols (h := h) (k := k) (by omega) (by omega) (by omega)
      rw [g.st] at this
      exact this
    have is2 : ∀ h, (M.cx k).callF 44 [ask.e] h = .ok (.bl true) h := fun h => by
      have := (looks_ok H (h := h) (hA ask)).1 ask (k := k) (Nat.le_refl _) (by omega) (by omega) (by omega)
      rw [g.st] at this
      exact this
    have rpe : ∀ h, runBi .repr [.tup [F.e, ask.e]] h = .ok (.rep (.tup [F.e, ask.e])) h := fun h => by rw [repr_val, rp]; rfl
    have g' : AkG F w2.c ask cs 10 3328 (Rd 3) (Ld 3) := g.le (Nat.le_refl _) (by decide) (by decide) (Nat.le_refl _) (Nat.le_refl _)
    have w2c : w2.c < 640 := by omega
    simp [rpe, is1, is2, r4, small62]
    refine SW_for (fun j : Nat => EV.int j) (KI xs F ask w2 (some (.val (.int x)))) (List.range' 0 4) ⟨w2, a6, a7, a8, a9, a10, a11, a12, rfl, rfl, by simp, by simpa using Stp.refl w2⟩ ?_ ?_
    · rintro y r2 env h' ⟨w3, a6, a7, a8, a9, a10, a11, a12, rfl, rfl, rl2, s3⟩
      simp only [List.length_cons] at rl2 s3
      have b3 := s3.hi
      refine ⟨_, rfl, ?_⟩
      simp
      refine crooked_ok H D gF (by omega) w2c g' gl (by omega) fun o go w4 s4 => ?_
      have b4 := s4.hi
      refine within_ok H D gF go (by omega) (by omega) fun o2 g2 w5 s5 => ?_
      obtain ⟨cs2, hc2⟩ := g2.cols
      have h2 := g2.h
      have z2 := g2.z
      have q1 : ∀ h, (M.cx k).callF 27 [F.e, o2.e] h = .ok (.bl (stA o2)) h := fun h => straight_ok H gF.ok hc2 (h := h) (k := k) (by omega) (by omega) (by omega)
      have q2 : ∀ h, (M.cx k).callF 44 [o2.e] h = .ok (.bl (stA o2)) h := fun h => (looks_ok H (h := h) (hA o2)).1 o2 (k := k) (Nat.le_refl _) (by omega) (by omega) (by omega)
      have q3 : repEq (.bl (stA o2)) (.bl (stA o2)) = some true := by simp [repEq]
      simp [q1, q2, q3]
      exact ⟨w5, _, _, _, _, _, _, _, rfl, rfl, by omega, ((s3.trans s4).trans s5).le (by omega) (by omega)⟩
    · rintro env h' ⟨w3, a6, a7, a8, a9, a10, a11, a12, rfl, rfl, _, s3⟩
      have b3 := s3.hi
      have a3 := s3.a
      have c3 := s3.ch
      simp at b3 c3
      obtain ⟨t0, tr, e0⟩ : ∃ t0 tr, F.tabs = t0 :: tr := by
        have := gF.ne
        cases hh : F.tabs with
        | nil => rw [hh] at this; simp at this
        | cons a r => exact ⟨a, r, rfl⟩
      have tg := gF.tb 0 t0 (by rw [e0]; rfl)
      obtain ⟨nm, kd, rest, ef⟩ := tg.ne
      have nl : nm.length ≤ 4 := by
        have := tg.flds 0 (nm, kd, false) (by rw [ef]; rfl)
        simp at this
        rw [this]; exact lett_len _ _
      have ixF : ∀ h, opIdx F.e (.int 0) h = .ok (.tup (t0.e :: tr.map Tb.e)) h := fun h => by
        have : F.e = .tup [.tup (t0.e :: tr.map Tb.e), F.pts] := by unfold Fr.e; rw [e0]; rfl
        rw [this]; exact ix_t0 _ _ _
      have ixt1 : ∀ h, opIdx t0.e (.int 1) h = .ok (.tup (eCol (nm, kd, false) :: rest.map eCol)) h := fun h => by
        have : t0.e = .tup [.str t0.name, .tup (eCol (nm, kd, false) :: rest.map eCol), .tup (t0.keys.map fun k => .tup (k.map .str))] := by unfold Tb.e; rw [ef]; rfl
        rw [this]; exact ix_t1 _ _ _ _
      have ixt0 : ∀ h, opIdx t0.e (.int 0) h = .ok (.str t0.name) h := fun h => ix_t0 _ _ _
      have bd := fun h v hv => bad_ok H (h := h) (k := k - 2) gF w2c g' (by omega) (by omega) e0 ef rfl v hv
      have nL : 3 + nm.length ≤ L := by omega
      have neq : eqR (.tup [.str [97, 115, 107]]) (.tup [.str [97, 115, 107]]) = some true := rfl
      cases kd with
      | num =>
        simp [ixF, ixt1, ixt0, eCol, Kd.s, nL, specR, eLm, eCm]
        refine heardR (P := fun z => SW z _ _ _) (Q := fun h' => ∃ w4, h' = hp w4 [] ∧ Stp 1 0 w3 w4) ?_ ?_
        · refine one_lst H D (by omega) (by simp) (by simp) (by omega) fun v hv w4 s4 => ⟨?_, w4, rfl, s4⟩
          exact bd _ v hv
        · rintro h ⟨w4, rfl, s4⟩
          have b4 := s4.hi
          have a4 := s4.a
          have c4 := s4.ch
          simp [rpe, repEq_self rks]
          exact ⟨w4, _, _, _, _, _, _, _, _, _, _, _, rfl, rfl, by omega, by omega, by omega, by omega⟩
      | txt =>
        simp [ixF, ixt1, ixt0, eCol, Kd.s, nL, specR, eLm, eCm]
        refine heardR (P := fun z => SW z _ _ _) (Q := fun h' => ∃ w4, h' = hp w4 [] ∧ Stp 1 0 w3 w4) ?_ ?_
        · refine one_lst H D (by omega) (by simp) (by simp) (by omega) fun v hv w4 s4 => ⟨?_, w4, rfl, s4⟩
          exact bd _ v hv
        · rintro h ⟨w4, rfl, s4⟩
          have b4 := s4.hi
          have a4 := s4.a
          have c4 := s4.ch
          simp [rpe, repEq_self rks]
          exact ⟨w4, _, _, _, _, _, _, _, _, _, _, _, rfl, rfl, by omega, by omega, by omega, by omega⟩
  · rintro env h' ⟨w, a2, a3, a4, a5, a6, a7, a8, a9, a10, a11, a12, rfl, rfl, rl, wa, wt, wc⟩
    simp
end
end Pl
end
section
set_option Elab.async false
set_option linter.all false
set_option maxRecDepth 100000
set_option maxHeartbeats 1000000
/-! K64i: the facts of the module behind the top, as the soundness wants them. -/
noncomputable section
namespace K64H
open PySem PySem.Spec PyProof.Rows L2 EvS
theorem fun_of {K : PySem.W.Frag} {x qual : Str} {st : Stmt} {kws : List (Str × V)} {f : Addr} {fd : FuncData} (F : FunD K x qual (defArgs st) (defBody st) (defScope st) [] kws f fd) : Fun K x qual st f fd := by
  obtain ⟨oc, od, dV, kV, doc, pm, an, cdv, ct, osl, e, lk, hcd, hD, hK⟩ := F.ex
  rcases hD with ⟨_, z⟩ | ⟨z, _⟩
  · subst z
    exact ⟨⟨oc, od, kV, doc, pm, an, cdv, ct, osl, e, lk, hcd⟩, F.kp⟩
  · exact absurd rfl z
def fnsB : Bool := K64.gF.all fun p => match K64.dds[p.2.1]? with
  | some d => (d.x == p.1) && decide (p.2.2.1 = d.df.np) && decide (p.2.2.2 = d.df.fresh)
  | none => false
theorem fns_ok : fnsB = true := by decide +kernel
theorem dds_ok : K64.dds.all (ddB K64.G) = true := by decide +kernel
def Mk : Md := ⟨fun g => K64.globs.getD g .non, fun g => K64.dcts.getD g ([], []), K64.dds⟩
def Mp : Pl.Mo := ⟨fun f => (K64.dds[f]?).map (·.df), fun g => K64.globs.getD g .non, fun g => K64.dcts.getD g ([], [])⟩
theorem cx_same : ∀ k, Mk.cx k = Mp.cx k
  | 0 => rfl
  | k + 1 => by
    have ih := cx_same k
    unfold Md.cx Pl.Mo.cx
    rw [ih]
    have e : ∀ (f : Nat) (args : List Ev.EV) (h : Ev.Hh), (match Mk.dds[f]? with
        | some d => Ev.runDf (Mp.cx k) d.df args h
        | none => .bad) = (match Mp.df f with
        | some d => Ev.runDf (Mp.cx k) d args h
        | none => .bad) := fun f args h => by
      show _ = (match (K64.dds[f]?).map (·.df) with
        | some d => Ev.runDf (Mp.cx k) d args h
        | none => .bad)
      show (match K64.dds[f]? with
        | some d => Ev.runDf (Mp.cx k) d.df args h
        | none => .bad) = _
      cases K64.dds[f]? <;> rfl
    congr 1
    funext f args h
    exact e f args h
theorem dfs_eq : K64.dds.map (·.df) = K64.dfs.take 47 := rfl
theorem has : Pl.Has Mp where
  df := fun i d _ hi e => by
    show (K64.dds[i]?).map (·.df) = some d
    rw [← List.getElem?_map, dfs_eq, List.getElem?_take_of_lt hi, e]
  gl := fun i _ => rfl
  dc := fun i _ => rfl
theorem draws : Pl.Draws Mp := by
  refine Pl.draw_ok (M := Mp) (A := 91009) (B := 2311) (C := 5407) (D := 311) (p := 2147483587) (q := 2147483563) (r := 2147483549) ?_ (by decide) (by decide) (by decide) (by decide) (by decide) (by decide) (by decide)
  show (K64.dds[29]?).map (·.df) = _
  rw [← List.getElem?_map, dfs_eq, List.getElem?_take_of_lt (by decide)]
  show some K64.f_law_draw = _
  rw [Pl.draw_is]
theorem fns_at {x : Str} {f np : Nat} {fr : Bool} (h : K64.G.fns.lookup x = some (f, np, fr)) : ∃ d, K64.dds[f]? = some d ∧ d.x = x ∧ np = d.df.np ∧ fr = d.df.fresh := by
  have m : (x, (f, np, fr)) ∈ K64.gF := PySem.mem_of_lookup h
  have q := List.all_eq_true.mp fns_ok _ m
  dsimp only at q
  cases e : K64.dds[f]? with
  | none => rw [e] at q; cases q
  | some d =>
    rw [e] at q
    simp only [Bool.and_eq_true, beq_iff_eq, decide_eq_true_eq] at q
    exact ⟨d, rfl, q.1.1, q.1.2, q.2⟩
theorem dds_at {f : Nat} {d : DD} (h : K64.dds[f]? = some d) : K64.ddsAll[f]? = some d := by
  have h' : (K64.ddsAll.take 47)[f]? = some d := h
  rw [List.getElem?_take] at h'
  split at h'
  · exact h'
  · cases h'
section
variable {K : PySem.W.Frag} {w : World} {h : Heap} {mg : Str → Option Value}
theorem fa_def {d : DD} (m : d ∈ K64.ddsAll) : He.Fa.glo d.x ∈ fa := by
  unfold fa fn
  refine List.mem_append_left _ (List.mem_append_left _ (List.mem_append_left _ ?_))
  rw [List.map_append, List.map_map]
  exact List.mem_append_left _ (List.mem_map_of_mem (f := _) m)
theorem fun_def (X : K.In h) (Gn : h.Ns mainGlobals mg) (c : He.SaysX fa fn ts tf exAll w h K) {d : DD} {i : Nat} (hi : K64.ddsAll[i]? = some d) (hq : d.qual = d.x) : ∃ fd, Fun K d.x d.qual d.st (He.ga K d.x) fd ∧ mg d.x = some (.ref (He.ga K d.x)) ∧ Binds K fd d.ps [] ∧ (∀ (s : Shared) (us : List Value), us.length = d.ps.length → BindsTo s fd ⟨us, []⟩ (d.ps.zip us)) := by
  have m : d ∈ K64.ddsAll := List.mem_of_getElem? hi
  obtain ⟨fd, F⟩ := He.SaysD.defs c.t.d (d := defOf d) (List.mem_append_left _ (List.mem_map_of_mem (f := _) m))
  have bd := bds i d hi
  refine ⟨fd, fun_of F, He.glo_ok X Gn (He.SaysD.facts c.t.d (fa_def m)), FunD.bindsN F fun kV doc pm an cdv ct us hl => ?_, FunD.bindsA F fun kV doc pm an cdv ct us hl => ?_⟩
  · show bindArgs (PySem.W.fnOf d.x d.qual _ _ _ .none kV doc pm an cdv ct) _ = _
    rw [hq]; exact bd kV doc pm an cdv ct us hl
  · show bindArgs (PySem.W.fnOf d.x d.qual _ _ _ .none kV doc pm an cdv ct) _ = _
    rw [hq]; exact bd kV doc pm an cdv ct us hl
theorem qual_eq {i : Nat} {d : DD} (hi : K64.ddsAll[i]? = some d) : d.qual = d.x := by
  unfold K64.ddsAll at hi
  rw [List.getElem?_map] at hi
  obtain ⟨p, _, rfl⟩ := Option.map_eq_some_iff.mp hi
  rfl
theorem find_keys {P : Params} (z : Str) : ∀ {l : List DictEntry} {ks : List Str}, l.map He.keyOf = He.keysIn P ks → (l.find? (·.key.isStr z)).isSome = decide (z ∈ ks) ∧ l.any (·.refKey) = false
  | [], [], _ => ⟨rfl, rfl⟩
  | [], k :: ks, h => by cases h
  | e :: r, [], h => by cases h
  | e :: r, k :: ks, h => by
    have h1 : He.keyOf e :: r.map He.keyOf = some (k, PyData.keyHash P k) :: He.keysIn P ks := h
    injection h1 with h2 h3
    obtain ⟨i1, i2⟩ := find_keys z h3
    unfold He.keyOf at h2
    split at h2
    · rename_i x t q
      have e5 := (Prod.mk.inj (Option.some.inj h2)).1
      subst e5
      have s1 : e.key.isStr z = decide (z = x) := by
        rw [q]
        show (x == z) = _
        by_cases y : z = x
        · subst y; simp
        · rw [decide_eq_false y, beq_eq_false_iff_ne]; exact fun w => y w.symm
      have s2 : e.refKey = false := by
        unfold DictEntry.refKey
        rw [q]
      refine ⟨?_, by rw [List.any_cons, s2, i2]; rfl⟩
      rw [List.find?_cons]
      by_cases y : z = x
      · rw [s1, decide_eq_true y]; simp [y]
      · rw [s1, decide_eq_false y]
        simp only [List.mem_cons, y, false_or]
        exact i1
    · cases h2
theorem keys_ns {a : Addr} {ks : List Str} (hd : He.dicW K a = some (He.keysIn w.params ks)) : ∃ es n, KDict K w a es n ∧ ∀ z, ∃ r, PySem.W.nsIn K a z = some r ∧ r.isSome = decide (z ∈ ks) := by
  obtain ⟨es, n, D⟩ := He.dicW_ok hd
  refine ⟨es, n, D, fun z => ?_⟩
  unfold He.dicW at hd
  rw [D.at_] at hd
  have low := D.low
  have hd : (match decide (("dict" : String) = "dict") && ((#[] : Array (Option Value)).isEmpty && !(a == sysModules)) with
    | true => some (es.toList.map He.keyOf)
    | false => none) = some (He.keysIn w.params ks) := hd
  rw [low] at hd
  have hk : es.toList.map He.keyOf = He.keysIn w.params ks := Option.some.inj hd
  obtain ⟨i1, i2⟩ := find_keys z hk
  unfold PySem.W.nsIn
  rw [D.at_]
  dsimp only
  cases e : es.toList.find? (·.key.isStr z) with
  | some u => rw [e] at i1; exact ⟨_, rfl, i1⟩
  | none => rw [e] at i1; rw [i2]; exact ⟨_, rfl, i1⟩
end
end K64H
end
end
section
set_option Elab.async false
set_option linter.all false
set_option maxRecDepth 100000
set_option maxHeartbeats 1000000
/-! K64l: MF for k64. -/
noncomputable section
namespace K64H
open PySem PySem.Spec PyProof.Rows L2 EvS
section
variable {K : PySem.W.Frag} {w : World} {h : Heap} {mg : Str → Option Value}
theorem con (c : He.SaysX fa fn ts tf exAll w h K) {f : He.Fa} (i : Nat) (e : conFa[i]? = some f := by rfl) : f.ok K = true := He.SaysD.facts c.t.d (List.mem_append_left _ (List.mem_append_right _ (List.mem_of_getElem? e)))
theorem exf (c : He.SaysX fa fn ts tf exAll w h K) {f : He.Fa} (i : Nat) (e : excFa[i]? = some f := by rfl) : f.ok K = true := He.SaysD.facts c.t.d (List.mem_append_right _ (List.mem_of_getElem? e))
theorem fre (c : He.SaysX fa fn ts tf exAll w h K) {x : Str} (m : x ∈ K64.gB) : (He.Fa.free x).ok K = true := He.SaysD.facts c.t.d (List.mem_append_left _ (List.mem_append_left _ (List.mem_append_right _ (List.mem_map_of_mem (f := _) m))))
theorem more_ok (c : He.SaysX fa fn ts tf exAll w h K) : (He.tupB K "REACHES" (dvS ["plus", "minus", "times"]) = true ∧ He.tupB K "WORDS" (dvS ["table", "pick", "show", "join", "half", "once", "add"]) = true ∧ He.tupB K "SUMS" (dvS ["column", "number", "text", "nothing"]) = true) ∧ noAskB K = true ∧
    He.valsB K (He.ga K "SIZES") (sizes.map fun p => (p.1, .int p.2)) = true ∧ He.valsB K (He.ga K "COND_SIZES") (condSizes.map fun p => (p.1, .int p.2)) = true := by
  have q := c.more
  unfold exAll exB at q
  simp only [Bool.and_eq_true] at q
  exact ⟨⟨q.1.1.1, q.1.1.2, q.1.2⟩, q.2.1, q.2.2.1, q.2.2.2⟩
theorem gls_ok (X : K.In h) (Gn : h.Ns mainGlobals mg) (c : He.SaysX fa fn ts tf exAll w h K) (x : Str) (g : Nat) (e : K64.G.gls.lookup x = some g) : ∃ v u, mg x = some u ∧ RelV v u ∧ ∀ N ρ H, RV K N ρ H (Mk.glob g) v := by
  have m : (x, g) ∈ K64.gG := PySem.mem_of_lookup e
  have eq : K64.gG = ([("NUMBER", 0), ("TEXT", 1), ("LETTERS", 2), ("LONGEST", 3), ("REACHES", 4), ("WORDS", 5), ("SUMS", 6)] : List (Str × Nat)) := rfl
  rw [eq] at m
  simp only [List.mem_cons, List.not_mem_nil, or_false, Prod.mk.injEq] at m
  obtain ⟨⟨t1, t2, t3⟩, _⟩ := more_ok c
  rcases m with ⟨rfl, rfl⟩ | ⟨rfl, rfl⟩ | ⟨rfl, rfl⟩ | ⟨rfl, rfl⟩ | ⟨rfl, rfl⟩ | ⟨rfl, rfl⟩ | ⟨rfl, rfl⟩
  · obtain ⟨t, ht⟩ := He.str_ok X Gn (con c (f := .str "NUMBER" "number") 0)
    exact ⟨.str "number", _, ht, ⟨t, rfl⟩, fun N ρ H => ⟨rfl, by decide⟩⟩
  · obtain ⟨t, ht⟩ := He.str_ok X Gn (con c (f := .str "TEXT" "text") 1)
    exact ⟨.str "text", _, ht, ⟨t, rfl⟩, fun N ρ H => ⟨rfl, by decide⟩⟩
  · obtain ⟨t, ht⟩ := He.str_ok X Gn (con c (f := .str "LETTERS" "abcdefghijklmnopqrstuvwxyz") 2)
    exact ⟨.str "abcdefghijklmnopqrstuvwxyz", _, ht, ⟨t, rfl⟩, fun N ρ H => ⟨rfl, by decide⟩⟩
  · obtain ⟨t, ht⟩ := He.int_ok X Gn (con c (f := .int "LONGEST" 8) 3)
    exact ⟨.int 8, _, ht, ⟨t, rfl⟩, fun N ρ H => rfl⟩
  · refine ⟨.ref (He.ga K "REACHES"), _, He.glo_ok X Gn (con c (f := .glo "REACHES") 4), rfl, fun N ρ H => ⟨_, _, rfl, He.tupB_ok t1 H, ?_⟩⟩
    exact ⟨_, _, rfl, ⟨rfl, by decide⟩, _, _, rfl, ⟨rfl, by decide⟩, _, _, rfl, ⟨rfl, by decide⟩, rfl⟩
  · refine ⟨.ref (He.ga K "WORDS"), _, He.glo_ok X Gn (con c (f := .glo "WORDS") 5), rfl, fun N ρ H => ⟨_, _, rfl, He.tupB_ok t2 H, ?_⟩⟩
    exact ⟨_, _, rfl, ⟨rfl, by decide⟩, _, _, rfl, ⟨rfl, by decide⟩, _, _, rfl, ⟨rfl, by decide⟩, _, _, rfl, ⟨rfl, by decide⟩, _, _, rfl, ⟨rfl, by decide⟩, _, _, rfl, ⟨rfl, by decide⟩, _, _, rfl, ⟨rfl, by decide⟩, rfl⟩
  · refine ⟨.ref (He.ga K "SUMS"), _, He.glo_ok X Gn (con c (f := .glo "SUMS") 6), rfl, fun N ρ H => ⟨_, _, rfl, He.tupB_ok t3 H, ?_⟩⟩
    exact ⟨_, _, rfl, ⟨rfl, by decide⟩, _, _, rfl, ⟨rfl, by decide⟩, _, _, rfl, ⟨rfl, by decide⟩, _, _, rfl, ⟨rfl, by decide⟩, rfl⟩
theorem dget_zip : ∀ {ks : List Ev.K0} {vs : List Ev.EV} {k : Ev.K0} {v : Ev.EV}, Ev.dget ks vs k = some v → (k, v) ∈ ks.zip vs
  | [], _, _, _, e => by cases e
  | _ :: _, [], _, _, e => by cases e
  | k' :: ks, v' :: vs, k, v, e => by
    unfold Ev.dget at e
    split at e
    · rename_i z
      subst z; cases e
      exact List.mem_cons_self
    · exact List.mem_cons_of_mem _ (dget_zip e)
theorem dict_ok {a : Addr} {p : List Ev.K0 × List Ev.EV} {l : List (Str × Int)} (hm : p.1 = l.map fun q => Ev.K0.s q.1.cps.toList) (hz : (p.1.zip p.2).all (fun q => match q with
    | (.s s, .int i) => l.contains (toS s, i)
    | _ => false) = true) (hd : He.dicW K a = some (He.keysIn w.params (l.map (·.1)))) (hv : He.valsB K a (l.map fun q => (q.1, .int q.2)) = true) :
    ∃ es n, KDict K w a es n ∧ (∀ s, txt s = true → ∃ r, PySem.W.nsIn K a (toS s) = some r ∧ r.isSome = decide (Ev.K0.s s ∈ p.1)) ∧
      ∀ s v, txt s = true → Ev.dget p.1 p.2 (Ev.K0.s s) = some v → ∃ u0 v0, PySem.W.nsIn K a (toS s) = some (some u0) ∧ RelV v0 u0 ∧ ∀ N ρ H, RV K N ρ H v v0 := by
  obtain ⟨es, n, D, ns⟩ := keys_ns hd
  refine ⟨es, n, D, fun s _ => ?_, fun s v _ e => ?_⟩
  · obtain ⟨r, h1, h2⟩ := ns (toS s)
    refine ⟨r, h1, h2.trans (decide_eq_decide.mpr ?_)⟩
    rw [hm]
    simp only [List.mem_map, Ev.K0.s.injEq]
    constructor
    · rintro ⟨q, hq, z⟩
      exact ⟨q, hq, by rw [z]; rfl⟩
    · rintro ⟨q, hq, z⟩
      exact ⟨q, hq, by rw [← z]; rfl⟩
  · have q := List.all_eq_true.mp hz _ (dget_zip e)
    cases v with
    | int i =>
      have q : l.contains (toS s, i) = true := q
      have mem : (toS s, i) ∈ l := List.contains_iff_mem.mp q
      obtain ⟨u, h1, h2⟩ := He.valsB_ok hv (q := (toS s, .int i)) (List.mem_map.mpr ⟨_, mem, rfl⟩)
      exact ⟨u, .int i, h1, h2, fun _ _ _ => rfl⟩
    | _ => cases q
theorem tab_eq (c : He.SaysX fa fn ts tf exAll w h K) : He.dicW K (He.ga K "SIZES") = some (He.keysIn w.params (sizes.map (·.1))) ∧ He.dicW K (He.ga K "COND_SIZES") = some (He.keysIn w.params (condSizes.map (·.1))) := by
  have e : ts.map (fun t => He.dicW K (t.1 K)) = ts.map fun t => some (He.keysIn w.params t.2) := congrArg (fun z : He.AlT => z.2) c.t
  have e1 : [He.dicW K (He.ga K "SIZES"), He.dicW K (He.ga K "COND_SIZES")] = [some (He.keysIn w.params (sizes.map (·.1))), some (He.keysIn w.params (condSizes.map (·.1)))] := e
  exact ⟨(List.cons.inj e1).1, (List.cons.inj (List.cons.inj e1).2).1⟩
theorem dcs_ok (X : K.In h) (Gn : h.Ns mainGlobals mg) (c : He.SaysX fa fn ts tf exAll w h K) (x : Str) (g : Nat) (e : K64.G.dcs.lookup x = some g) : ∃ d es n, mg x = some (.ref d) ∧ KDict K w d es n ∧ (∀ s, txt s = true → ∃ r, PySem.W.nsIn K d (toS s) = some r ∧ r.isSome = decide (Ev.K0.s s ∈ (Mk.dct g).1)) ∧
    ∀ s v, txt s = true → Ev.dget (Mk.dct g).1 (Mk.dct g).2 (Ev.K0.s s) = some v → ∃ u0 v0, PySem.W.nsIn K d (toS s) = some (some u0) ∧ RelV v0 u0 ∧ ∀ N ρ H, RV K N ρ H v v0 := by
  have m : (x, g) ∈ K64.gD := PySem.mem_of_lookup e
  have eq : K64.gD = ([("SIZES", 0), ("COND_SIZES", 1)] : List (Str × Nat)) := rfl
  rw [eq] at m
  simp only [List.mem_cons, List.not_mem_nil, or_false, Prod.mk.injEq] at m
  obtain ⟨_, _, v1, v2⟩ := more_ok c
  obtain ⟨d1, d2⟩ := tab_eq c
  rcases m with ⟨rfl, rfl⟩ | ⟨rfl, rfl⟩
  · obtain ⟨es, n, D, q1, q2⟩ := dict_ok (p := Mk.dct 0) (l := sizes) rfl (by decide +kernel) d1 v1
    exact ⟨_, es, n, He.glo_ok X Gn (con c (f := .glo "SIZES") 7), D, q1, q2⟩
  · obtain ⟨es, n, D, q1, q2⟩ := dict_ok (p := Mk.dct 1) (l := condSizes) rfl (by decide +kernel) d2 v2
    exact ⟨_, es, n, He.glo_ok X Gn (con c (f := .glo "COND_SIZES") 8), D, q1, q2⟩
theorem mf (X : K.In h) (Gn : h.Ns mainGlobals mg) (c : He.SaysX fa fn ts tf exAll w h K) : MF Mk (fun _ => .ref (He.ga K "NoAsk")) K64.G K w mg where
  fn := fun x f np fr e => by
    obtain ⟨d, h1, h2, h3, h4⟩ := fns_at e
    obtain ⟨fd, F, m, b, _⟩ := fun_def X Gn c (dds_at h1) (qual_eq (dds_at h1))
    exact ⟨d, _, fd, h1, h3, h4, F, by rw [← h2]; exact m, b⟩
  gl := gls_ok X Gn c
  dc := dcs_ok X Gn c
  bl := fun x m => He.free_ok X Gn (fre c m)
  ex := fun x k e => by
    have m : (x, k) ∈ ([("NoAsk", 0)] : List (Str × Nat)) := PySem.mem_of_lookup e
    simp only [List.mem_cons, List.not_mem_nil, or_false, Prod.mk.injEq] at m
    obtain ⟨rfl, rfl⟩ := m
    obtain ⟨e1, e2, e3, e4⟩ := He.exc_ok (exf c (f := .exc "NoAsk") 4)
    exact ⟨He.ga K "NoAsk", He.veBase, _, _, _, PySem.F.excBase_ValueError, e1, He.glo_ok X Gn (exf c (f := .glo "NoAsk") 1), e2, ⟨e3, e4⟩, rfl⟩
  dd := fun d m => List.all_eq_true.mp dds_ok d m
  rep := rfl
  spB := fun _ _ => rfl
end
end K64H
end
end
section
set_option Elab.async false
set_option linter.all false
set_option maxRecDepth 100000
set_option maxHeartbeats 1000000
noncomputable section
namespace K64H
open PySem PySem.Spec PyProof.Rows L2 EvS
theorem room101 : Room 101 callerA := ⟨rfl, by decide, by decide⟩
def spL (n : Nat) (st : Stmt) : Bool := spB2 { K64.G with N := K64.dLaw.N, rep := true, spB := fun _ _ => false } (defScope K64.dLaw.st) Pl.eLm Pl.eCm st
theorem law_chk : chkSts { K64.G with N := K64.dLaw.N, rep := true, spB := spL } true K64.dLaw.df.fresh K64.dLaw.df.body (defScope K64.dLaw.st) (defBody K64.dLaw.st) = true := by decide +kernel
theorem law_sc : scopeB K64.dLaw.N K64.dLaw.ps (defScope K64.dLaw.st) = true := by decide +kernel
theorem law_at47 : K64.ddsAll[47]? = some K64.dLaw := rfl
theorem law_ps : K64.dLaw.ps.length = K64.dLaw.df.np := rfl
theorem law_N : K64.dLaw.N.length = K64.dLaw.df.ns := rfl
def stH : Stmt := K64.bodyP.getD 55 (.Pass ⟨0, 0, 0, 0⟩)
theorem hd_N : scopeB hN ["ask"] (defScope (K64.stOf "_law_heard")) = true := by decide +kernel
theorem hd_l : ∀ y ∈ hN, (defScope (K64.stOf "_law_heard")).names.lookup y = some .local := by decide +kernel
theorem hd_g : ∀ y ∈ (["isinstance", "PlanError", "NoSpan", "TooMany", "NoAsk"] : List Str), (defScope (K64.stOf "_law_heard")).names.lookup y = some .globalImplicit := by decide +kernel
theorem law_hg : (defScope K64.dLaw.st).names.lookup ("_law_heard" : Str) = some NameKind.globalImplicit := by decide +kernel
end K64H
end
end
section
set_option Elab.async false
set_option linter.all false
set_option maxRecDepth 100000
set_option maxHeartbeats 1000000
/-! K64m: the law's call. -/
noncomputable section
namespace K64H
open PySem PySem.Spec PyProof.Rows L2 EvS LamX
def stH2 : Stmt := K64.bodyP.getD 68 (.Pass ⟨0, 0, 0, 0⟩)
theorem stH_eq : K64.stOf "_law_heard" = stH2 := by kernel_rfl
section
variable {K : PySem.W.Frag} {w : World} {h : Heap} {mg : Str → Option Value}
theorem gives (X : K.In h) (Gn : h.Ns mainGlobals mg) (c : He.SaysX fa fn ts tf exAll w h K) {g : Addr} {cdv : Value} (Y : Cx) (hK : Y.K = K) (hM : Y.mg = mg) : GivesTo Y hN "_law_heard" (defScope (K64.stOf "_law_heard")) g cdv (defBody (K64.stOf "_law_heard")) "ask" lamQ (TTh (He.ga K "NoAsk")) := by
  obtain ⟨_, na, _, _⟩ := more_ok c
  unfold noAskB at na
  simp only [Bool.and_eq_true] at na
  obtain ⟨n1, n2, n3, n4⟩ := na
  have hl := hd_l
  have hg := hd_g
  rw [stH_eq] at hl hg ⊢
  exact heard_gives (b3 := []) (j8 := 0) hl hg (by rw [hM]; exact He.free_ok X Gn (fre c (x := "isinstance") (by decide))) (by rw [hM]; exact He.glo_ok X Gn (exf c (f := .glo "PlanError") 0)) (by rw [hM]; exact He.glo_ok X Gn (exf c (f := .glo "NoSpan") 2)) (by rw [hM]; exact He.glo_ok X Gn (exf c (f := .glo "TooMany") 3)) (by rw [hM]; exact He.glo_ok X Gn (exf c (f := .glo "NoAsk") 1))
    (by rw [hK]; exact excCB_ok n1) (by rw [hK]; exact He.exm_ok (exf c (f := .exm "NoAsk" "PlanError" true) 6)) (by rw [hK]; exact of_decide_eq_true n2) (by rw [hK]; exact of_decide_eq_true n3) (by rw [hK]; exact of_decide_eq_true n4)
def spLaw : Nat → Ev.MS := fun _ => specN (Mk.cx 100) (Mk.cx 98) Pl.eLm Pl.eCm
theorem plain (xs : List Int) : Pl.RW (Ev.runDf { Mk.cx 100 with spec := spLaw } K64.f_law [.fro (xs.map .int)] []) (fun v _ => v = .bl true) Pl.NoX := by
  have q := Pl.law_plain has draws (k := 100) (Nat.le_refl _) xs
  have e : ({ Mk.cx 100 with spec := spLaw } : Ev.Cxt) = Pl.lawC Mp 100 := by
    unfold spLaw
    rw [cx_same, cx_same]
    rfl
  rw [e]
  exact q
theorem law_fn {P : Program} (hP : P = Pr) (X : K.In h) (Gn : h.Ns mainGlobals mg) (c : He.SaysX fa fn ts tf exAll w h K) :
    ∃ fd : FuncData, (∀ (s : Shared) (v : Value), BindsTo s fd ⟨[v], []⟩ [("script", v)]) ∧ ∀ base : Heap, K.In base → base.Ns mainGlobals mg → TabB base mg (He.cT K ("law", none)).1 (He.cT K ("law", none)).2 →
      FnC P w K mg base 101 (He.ga K "law") fd ["script"] (spT [(He.cT K ("law", none)).2] (spE K (fun _ => .ref (He.ga K "NoAsk")) 1 false (fun args h => Ev.runDf { Mk.cx 100 with spec := spLaw } K64.f_law args h))) := by
  have F := mf X Gn c
  obtain ⟨fd, hf, hm, hb0, bnd⟩ := fun_def X Gn c law_at47 rfl
  refine ⟨fd, fun s v => bnd s [v] rfl, fun base KB GB TB => ?_⟩
  obtain ⟨fdH, FH⟩ := He.SaysD.defs c.t.d (d := dHeard) (List.mem_append_right _ List.mem_cons_self)
  have bH : Binds K fdH ["ask"] [] := FunD.bindsN FH fun kV doc pm an cdv ct us hl => bdH kV doc pm an cdv ct us hl
  have gH : mg "_law_heard" = some (.ref (He.ga K "_law_heard")) := He.glo_ok X Gn (He.SaysD.facts c.t.d (f := .glo "_law_heard") (List.mem_append_left _ (List.mem_append_left _ (List.mem_append_left _ (by
    unfold fn
    rw [List.map_append]
    exact List.mem_append_right _ List.mem_cons_self)))))
  obtain ⟨oc, od, dV, kV, doc, pm, an, cdvH, ct, osl, e, lk, hcd, _, _⟩ := FH.ex
  subst e
  have hcode : ∀ kV doc pm an cdv ct, fd = PySem.W.fnOf K64.dLaw.x K64.dLaw.qual (defArgs K64.dLaw.st) (defBody K64.dLaw.st) (defScope K64.dLaw.st) .none kV doc pm an cdv ct → cdv = .ref (He.cT K ("law", none)).1 := fun kV doc pm an cdv ct e => by
    obtain ⟨oc, od, kV', doc', pm', an', cdv', ct', osl, e', lk', hcd'⟩ := hf.ex
    obtain ⟨c0, hc0⟩ := He.codeIn_ref hcd'
    have e2 : cdv = cdv' := congrArg FuncData.code (e.symm.trans e')
    have e3 : He.codeOf K ("law", none) = c0 := He.codeOf_eq (p := ("law", none)) lk' (by rw [e']; exact hc0)
    rw [e2, hc0, ← e3]
    rfl
  exact law_at (TP := [(He.cT K ("law", none)).2]) F 100 spLaw spL K64.dLaw (He.ga K "law") fd hf law_sc law_ps law_N law_chk fun cdv outer s H E hfd X1 tk hr n st hst =>
    sp_of (k2 := 98) F (scope_of law_sc) List.mem_cons_self rfl TB hcode rfl gH FH.kp lk hcd bH (scope_of hd_N) (.inl (hd_l _ (by decide))) (gives X Gn c) law_hg spL (fun _ _ z => z) cdv outer s H E hfd X1 tk hr n st hst
theorem rv_ints {N : Nz} {ρ : List Addr} {H : Hp} : ∀ ns : List Int, RVs K N ρ H (ns.map Ev.EV.int) (ns.map V.int)
  | [] => rfl
  | n :: ns => ⟨.int n, _, rfl, rfl, rv_ints ns⟩
theorem law_sp {T a : Addr} {H : Hp} {ns : List Int} (hT : H T = some (.tbl #[])) (hS : SqL K H a (ns.map V.int)) :
    spT [T] (spE K (fun _ => .ref (He.ga K "NoAsk")) 1 false (fun args h => Ev.runDf { Mk.cx 100 with spec := spLaw } K64.f_law args h)) [.ref a] H (fun v _ => v = .bl true) fun _ _ _ => False := by
  refine ⟨fun p hp => ?_, rfl, ⟨fun _ => False, fun _ => False⟩, [], [], [.fro (ns.map .int)], fun _ z => z, ⟨rfl, List.nodup_nil, (fun n a xs e => by cases e), fun a z => (show False from z).elim⟩, ⟨.ref a, [], rfl, ⟨a, ns.map V.int, rfl, ?_, rv_ints ns⟩, rfl⟩, ?_⟩
  · rw [List.mem_singleton.mp hp]
    exact TabS.nil hT
  · rcases hS with q | q
    · exact .inl ⟨q, fun z => z, List.not_mem_nil⟩
    · exact .inr (.inr q)
  · have q := plain ns
    revert q
    dsimp only
    cases Ev.runDf { Mk.cx 100 with spec := spLaw } K64.f_law [.fro (ns.map .int)] [] with
    | ok v h1 =>
      intro q
      have q : v = .bl true := q
      subst q
      exact fun ρ' H' x _ _ rx _ => rx
    | exc c h1 => exact fun q => (show False from q).elim
    | bad => exact fun q => (show False from q).elim
end
end K64H
end
end
section
set_option Elab.async false
set_option linter.all false
set_option maxRecDepth 100000
set_option maxHeartbeats 0
/-! K64o: the law holds. -/
open PySem PySem.W PySem.Calls PyProof.Rows
theorem PySem.Challenge.cw_everybook_k64_straight_asks_and_others_holds : PySem.Challenge.rw_everybook_k64_straight_asks_and_others.Holds := by
  w_on; o_law
  refine HandSHeadRun.head_any (r := OpenLaw.row PySem.Challenge.rw_everybook_k64_straight_asks_and_others) (q := view (OpenLaw.row PySem.Challenge.rw_everybook_k64_straight_asks_and_others).prog [74]) (H := K64H.hk) (ob := K64H.ob) (M := 3000) (loose := K64H.loose) (d := HandSHeadRun.topDef (OpenLaw.row PySem.Challenge.rw_everybook_k64_straight_asks_and_others).prog 74) (kwd := []) K64H.ob_eq
    (by kernel_rfl) (fun s => by kernel_rfl) K64H.run (by kernel_rfl) (by kernel_rfl) (by kernel_rfl) (by rfl) (by first | assumption | decide +kernel) (by decide +kernel) ⟨rfl, rfl, rfl, rfl, rfl, by decide +kernel⟩ ?hw ?hc
  case hw => w_witness2
  case hc =>
    refine Att.attach_callB (n := 63) rfl (by kernel_rfl) fun w s₀ s₁ mg mb f o pm cd doc a vs ns G Y ho hd hcd hmg hobj hints hlen hbits hg => ?_
    obtain ⟨K, KX, c⟩ := Y
    have hmg1 : mg ("law" : PySem.Str) = some (.ref f) := by
      have e : (HandSHeadRun.topDef (OpenLaw.row PySem.Challenge.rw_everybook_k64_straight_asks_and_others).prog 74).name = ("law" : PySem.Str) := by kernel_rfl
      rw [← e]
      exact hmg
    have eg : mg ("law" : PySem.Str) = some (.ref (He.ga K "law")) := He.glo_ok KX G.T.g (He.SaysD.facts c.t.d (K64H.fa_def (d := K64.dLaw) (List.mem_of_getElem? K64H.law_at47)))
    rw [hmg1] at eg
    cases eg
    obtain ⟨fd, hb, hF⟩ := K64H.law_fn (P := (PySem.Challenge.rw_everybook_k64_straight_asks_and_others).prog) rfl KX G.T.g c
    exact EvS.law_goT (c := (He.cT K ("law", none)).1) (T := (He.cT K ("law", none)).2) KX G.T.g G.T.b G.T.builtins G.T.nolimit hg (c.empty _ List.mem_cons_self) (c.out _ List.mem_cons_self) (PySem.W.codeHd_of_K KX (c.hd _ List.mem_cons_self)) G.T.bmain hobj hints (Nat.le_trans hlen (by decide)) K64H.room101 hF hb fun H hT hS => K64H.law_sp hT hS
end
