import PyProof.Rows.All
import Wide.All
import OpenK.AllK
import Wide.FinOn
import HandS.ForMost
import KE.SortData
import KE.DataCmp
import HandS.Zip
import HandS.AnyAll
import HandS.HeadWalk
import HandS.SetFor
import HandS.Style
import HandS.Wide
import HandS.TupAny
import HandS.IsInst
import HandS.GenList
import HandS.Set
import HandS.Strs
import HandS.HeadHook4
import HandS.HeadNt
import HandS.EndTab
import PyProof.ReprLen
import PySem.Challenge.RW_twovalues_k92_whole_sizes_of_kinds
import HandS.Head0
import HandS.Head1
import HandS.Head2
import HandS.HeadEnd
import KE.KStateDown
set_option Elab.async false
set_option linter.all false
set_option maxRecDepth 100000
set_option autoImplicit false
set_option maxHeartbeats 200000
/-! T0: a small language of values (no heap) for the Python that the laws use, and what it computes. -/
namespace Ty
open PySem
abbrev D := PyData
/-- what a name holds: a value that is not changed any more; a list or dict that this name alone holds (par: the caller's) -/
inductive Sl where
  | fro (d : D)
  | own (par : Bool) (d : D)
abbrev Env := List (Option Sl)
inductive Out (α : Type) where
  | ok (a : α) (ρ : Env)
  | bad
abbrev M (α : Type) := Env → Out α
def bnd {α β : Type} (m : M α) (f : α → M β) : M β := fun ρ => match m ρ with
  | .ok a ρ' => f a ρ'
  | .bad => .bad
def ret {α : Type} (a : α) : M α := fun ρ => .ok a ρ
def lft {α : Type} (o : Option α) : M α := fun ρ => match o with
  | some a => .ok a ρ
  | none => .bad
/-- a value, and whether it is a list just made -/
abbrev R := D × Bool
/-- an operand: a value, or the list that a name holds -/
inductive B where
  | val (d : D)
  | slot (i : Nat)

/-! ### order -/
def fine (d : D) : Bool := d.canLay0 && decide (d.depth ≤ 60)
/-- x < y -/
def ltD (x y : D) : Bool := match x, y with
  | .int i, .int j => decide (i < j)
  | _, _ => PySem.W.dataLt x y
def insD (x : D) : List D → List D
  | [] => [x]
  | y :: ys => if ltD y x then y :: insD x ys else x :: y :: ys
/-- sorted, equal ones in their sequence -/
def sortD : List D → List D
  | [] => []
  | x :: xs => insD x (sortD xs)
def isInt : D → Bool
  | .int _ => true
  | _ => false
def isStr : D → Bool
  | .str _ => true
  | _ => false
def isTup : D → Bool
  | .tuple _ => true
  | _ => false
def isNone : D → Bool
  | .none => true
  | _ => false
/-- every two can be compared -/
def allCmp (xs : List D) : Bool := xs.all isInt || (xs.all fine && (xs.all isStr || (xs.all isTup && xs.all fun x => xs.all fun y => PySem.W.alike x y)))

/-! ### what operations compute -/
inductive Prim where
  | add | sub | mul | fdiv | mod | pow | shl | shr | band | bor | bxor
  | neg | inv
  | eq | ne | lt | le | gt | ge | isin | notin | isn | isnotn
  | idx | sl (lo hi : Bool) | rev | get
  | bi (f : String)
  | mt (m : String)
  deriving DecidableEq
def small (i : Int) : Bool := decide (-(2 ^ 64) < i ∧ i < 2 ^ 64)
def mid (i : Int) : Bool := decide (i.natAbs < 2 ^ 2000)
/-- truth -/
def truth : D → Option Bool
  | .bool b => some b
  | .none => some false
  | _ => none
def addD : D → D → Option R
  | .int i, .int j => some (.int (i + j), false)
  | .str x, .str y => if x.length + y.length ≤ 1000000 then some (.str (x ++ y), false) else none
  | .tuple xs, .tuple ys => if xs.length + ys.length ≤ 1000000 then some (.tuple (xs ++ ys), false) else none
  | .list xs, .list ys => if xs.length + ys.length ≤ 1000000 then some (.list (xs ++ ys), true) else none
  | _, _ => none
def intD (f : Int → Int → Option Int) : D → D → Option R
  | .int i, .int j => (f i j).map fun k => (.int k, false)
  | _, _ => none
def relD (p : D → D → Bool) (x y : D) : Option R := match x, y with
  | .int i, .int j => some (.bool (p (.int i) (.int j)), false)
  | _, _ => if PySem.W.alike x y && !isNone x && fine x && fine y then some (.bool (p x y), false) else none
def itemsOf : D → Option (List D)
  | .list xs => some xs
  | .tuple xs => some xs
  | _ => none
def inD (x y : D) : Option Bool := match y with
  | .list ys => if fine x && fine (.list ys) then some (ys.any fun z => PyData.eqv z x) else none
  | .tuple ys => if fine x && fine (.tuple ys) then some (ys.any fun z => PyData.eqv z x) else none
  | _ => none
def ixNat (n : Nat) (i : Int) : Option Nat := if 0 ≤ i then (if i < n then some i.toNat else none) else if -(n : Int) ≤ i then some (i + n).toNat else none
def keyEq : D → D → Bool
  | .int i, .int j => decide (i = j)
  | .str x, .str y => decide (x = y)
  | _, _ => false
def isKey : D → Bool
  | .int _ => true
  | .str _ => true
  | _ => false
def seekKv : List (D × D) → D → Option D
  | [], _ => none
  | p :: r, k => if keyEq p.1 k then some p.2 else seekKv r k
def getD (x k d : D) : Option D := match x with
  | .dict kvs => if isKey k then some ((seekKv kvs k).getD d) else none
  | _ => none
def idxD (x y : D) : Option R := match x, y with
  | .dict kvs, k => if isKey k then (seekKv kvs k).map fun d => (d, false) else none
  | .list xs, .int i => (ixNat xs.length i).bind fun j => xs[j]?.map fun d => (d, false)
  | .tuple xs, .int i => (ixNat xs.length i).bind fun j => xs[j]?.map fun d => (d, false)
  | .str s, .int i => if s.length ≤ 1000000 then ((ixNat s.cps.toList.length i).bind fun j => s.cps.toList[j]?.map fun c => (.str ⟨#[c]⟩, false)) else none
  | _, _ => none
def cutL {α : Type} (xs : List α) (lo hi : Option Int) : List α := (xs.drop (HT.sIx xs.length 0 lo)).take (HT.sIx xs.length xs.length hi - HT.sIx xs.length 0 lo)
def sliceD (x : D) (lo hi : Option Int) : Option R := match x with
  | .list xs => some (.list (cutL xs lo hi), true)
  | .tuple xs => some (.tuple (cutL xs lo hi), false)
  | .str s => if s.length ≤ 1000000 then some (.str ⟨(cutL s.cps.toList lo hi).toArray⟩, false) else none
  | _ => none
def typeName : D → String
  | .none => "NoneType"
  | .bool _ => "bool"
  | .int _ => "int"
  | .str _ => "str"
  | .list _ => "list"
  | .tuple _ => "tuple"
  | .dict _ => "dict"
/-- isinstance(d, t), t a built-in type -/
def isiD (d : D) (t : String) : Bool := typeName d == t || (typeName d == "bool" && t == "int")
def intsOf : List D → Option (List Int)
  | [] => some []
  | .int i :: r => (intsOf r).map (i :: ·)
  | _ => none
def strsOf : List D → Option (List Str)
  | [] => some []
  | .str i :: r => (strsOf r).map (i :: ·)
  | _ => none
def biD (f : String) (as : List D) : Option R :=
  if f = "len" then (match as with
    | [.list xs] => some (.int xs.length, false)
    | [.tuple xs] => some (.int xs.length, false)
    | [.str s] => if s.length ≤ 1000000 then some (.int s.length, false) else none
    | _ => none)
  else if f = "int" then (match as with
    | [.int i] => some (.int i, false)
    | [.str a] => if a.length ≤ 640 then (PySem.intText? a).map fun n => (.int n, false) else none
    | _ => none)
  else if f = "tuple" then (match as with
    | [.list xs] => some (.tuple xs, false)
    | [.tuple xs] => some (.tuple xs, false)
    | _ => none)
  else if f = "list" then (match as with
    | [.list xs] => some (.list xs, true)
    | [.tuple xs] => some (.list xs, true)
    | _ => none)
  else if f = "sorted" then (match as with
    | [.list xs] => if allCmp xs && decide (xs.length ≤ 1000000) then some (.list (sortD xs), true) else none
    | _ => none)
  else if f = "sum" then (match as with
    | [.list xs] => (intsOf xs).map fun ns => (.int ns.sum, false)
    | _ => none)
  else if f = "min" then (match as with
    | [.int i, .int j] => some (.int (if j < i then j else i), false)
    | _ => none)
  else if f = "max" then (match as with
    | [.int i, .int j] => some (.int (if j > i then j else i), false)
    | _ => none)
  else if f = "repr" then (match as with
    | [d] => if d.showable && d.canLay0 && decide (d.depth ≤ 60) && decide (d.shown.length ≤ 1000000) then some (.str d.shown, false) else none
    | _ => none)
  else if f = "str" then (match as with
    | [.int i] => if decide (i.natAbs.log2 < 1000) then some (.str (toString i), false) else none
    | _ => none)
  else none
def app : Prim → List D → Option R
  | .add, [x, y] => addD x y
  | .sub, [x, y] => intD (fun i j => some (i - j)) x y
  | .mul, [x, y] => intD (fun i j => if small i || small j || (mid i && mid j) then some (i * j) else none) x y
  | .fdiv, [x, y] => intD (fun i j => if decide (0 < j) && decide (j < 1073741824) then some (i / j) else none) x y
  | .mod, [x, y] => intD (fun i j => if decide (0 < j) then some (i % j) else none) x y
  | .pow, [x, y] => intD (fun i j => if decide (0 ≤ j) && decide (j ≤ 1000) && small i then some (i ^ j.toNat) else none) x y
  | .shl, [x, y] => intD (fun i j => if decide (0 ≤ j) && decide (j ≤ 1000000) && small i then some (i * 2 ^ j.toNat) else none) x y
  | .shr, [x, y] => intD (fun i j => if decide (0 ≤ j) then some (i / 2 ^ j.toNat) else none) x y
  | .band, [x, y] => intD (fun i j => some (Builtin.bitAnd i j)) x y
  | .bor, [x, y] => intD (fun i j => some (Builtin.bitOr i j)) x y
  | .bxor, [x, y] => intD (fun i j => some (Builtin.bitXor i j)) x y
  | .neg, [.int i] => some (.int (-i), false)
  | .inv, [.int i] => some (.int (Builtin.bitNot i), false)
  | .eq, [x, y] => if fine x && fine y then some (.bool (PyData.eqv x y), false) else none
  | .ne, [x, y] => if fine x && fine y then some (.bool (!PyData.eqv x y), false) else none
  | .lt, [x, y] => relD ltD x y
  | .le, [x, y] => relD (fun x y => !ltD y x) x y
  | .gt, [x, y] => relD (fun x y => ltD y x) x y
  | .ge, [x, y] => relD (fun x y => !ltD x y) x y
  | .isin, [x, y] => (inD x y).map fun b => (.bool b, false)
  | .notin, [x, y] => (inD x y).map fun b => (.bool (!b), false)
  | .isn, [x] => some (.bool (match x with | .none => true | _ => false), false)
  | .isnotn, [x] => some (.bool (match x with | .none => false | _ => true), false)
  | .idx, [x, y] => idxD x y
  | .sl false false, [x] => sliceD x none none
  | .sl true false, [x, .int i] => sliceD x (some i) none
  | .sl false true, [x, .int i] => sliceD x none (some i)
  | .sl true true, [x, .int i, .int j] => sliceD x (some i) (some j)
  | .get, [x, k, d] => (getD x k d).map fun r => (r, false)
  | .rev, [.list xs] => some (.list xs.reverse, true)
  | .rev, [.tuple xs] => some (.tuple xs.reverse, false)
  | .bi f, as => biD f as
  | _, _ => none

/-! ### the language -/
/-- where a value goes -/
inductive Tg where
  | nm (i : Nat)
  | tp (ts : List Nat)
inductive Q where | all | any | sum
  deriving DecidableEq
mutual
inductive Ex where
  | var (i : Nat)
  | con (d : D)
  | glb (x : Str) (d : D)
  | prim (p : Prim) (es : Exs)
  | chain (p q : Prim) (a b c : Ex)
  | dget (a k d : Ex)
  | sl11 (a lo hi : Ex)
  | and (a b : Ex)
  | not (a : Ex)
  | kget (x : Str) (kvs : List (Str × D)) (k d : Ex)
  | isi (a : Ex) (t : String)
  | or (a b : Ex)
  | ife (c a b : Ex)
  | tup (es : Exs)
  | lst (es : Exs)
  | call (f : Str) (as : Ars)
  | callK (f : Str) (as ks : Ars) (π : List Nat)
  | comp (own : List Nat) (tg : Tg) (it : It) (ifs : Exs) (e : Ex)
  | comp2 (own own2 : List Nat) (tg : Tg) (it : It) (ifs : Exs) (tg2 : Tg) (it2 : It) (ifs2 : Exs) (e : Ex)
  | gen (q : Q) (own : List Nat) (tg : Tg) (it : It) (ifs : Exs) (e : Ex)
  | sset (e : Ex)
inductive Exs where
  | nil
  | cons (e : Ex) (es : Exs)
inductive Ars where
  | nil
  | val (e : Ex) (as : Ars)
  | ref (i : Nat) (as : Ars)
/-- what is walked -/
inductive It where
  | seq (e : Ex)
  | rng1 (a : Ex)
  | rng2 (a b : Ex)
  | zip (a b : Ex)
  | enum (a : Ex)
  | str (a : Ex)
end
mutual
inductive Sm where
  | asg (t : Tg) (e : Ex)
  | par (i j : Nat) (a b : Ex)
  | par3 (i j l : Nat) (a b c : Ex)
  | aug (i : Nat) (p : Prim) (e : Ex)
  | put (i : Nat) (k e : Ex)
  | app (i : Nat) (e : Ex)
  | exp (e : Ex)
  | ret (e : Ex)
  | retN
  | ifs (c : Ex) (a b : Sms)
  | for (t : Tg) (it : It) (b : Sms)
  | whl (c : Ex) (b : Sms)
  | brk
  | cnt
  | pass
  | rais
inductive Sms where
  | nil
  | cons (s : Sm) (ss : Sms)
end

/-! ### what it computes -/
/-- the value of a name, given away: it is not changed any more -/
def rdVar (i : Nat) : M R := fun ρ => match ρ[i]? with
  | some (some (.fro d)) => .ok (d, false) ρ
  | some (some (.own false d)) => .ok (d, false) (ρ.set i (some (.fro d)))
  | _ => .bad
def rdOpd (i : Nat) : M B := fun ρ => match ρ[i]? with
  | some (some (.fro d)) => .ok (.val d) ρ
  | some (some (.own _ _)) => .ok (.slot i) ρ
  | _ => .bad
def fetch (ρ : Env) : B → Option D
  | .val d => some d
  | .slot i => match ρ[i]? with
    | some (some (.own _ d)) => some d
    | some (some (.fro d)) => some d
    | _ => none
def fetchAll (ρ : Env) : List B → Option (List D)
  | [] => some []
  | b :: bs => match fetch ρ b, fetchAll ρ bs with
    | some d, some ds => (some (d :: ds))
    | _, _ => none
def prim (p : Prim) (bs : List B) : M R := fun ρ => match fetchAll ρ bs with
  | some ds => (match app p ds with
    | some r => .ok r ρ
    | none => .bad)
  | none => .bad
/-- the operand is a dict -/
def dictB (b : B) : M Unit := fun ρ => match fetch ρ b with
  | some (.dict _) => .ok () ρ
  | _ => .bad
/-- a value comes into a name -/
def slOf (r : R) : Sl := if r.2 then .own false r.1 else .fro r.1
def setVar (i : Nat) (r : R) : M Unit := fun ρ => match ρ[i]? with
  | some (some (.own true _)) => .bad
  | some _ => .ok () (ρ.set i (some (slOf r)))
  | none => .bad
def setVars : List Nat → List D → M Unit
  | [], [] => ret ()
  | i :: is, d :: ds => bnd (setVar i (d, false)) fun _ => setVars is ds
  | _, _ => fun _ => .bad
def setTg (t : Tg) (r : R) : M Unit := match t with
  | .nm i => setVar i r
  | .tp is => (match r.1 with
    | .tuple ds => setVars is ds
    | _ => fun _ => .bad)
/-- names that hold nothing -/
def wipeE (ρ : Env) : List Nat → Env
  | [] => ρ
  | v :: vs => (wipeE ρ vs).set v none
/-- none of these names holds a list of its own -/
def noOwn (ρ : Env) (vs : List Nat) : Bool := vs.all fun v => match ρ[v]? with
  | some (some (.own _ _)) => false
  | some _ => true
  | none => false
/-- these names as they were -/
def backE (ρ ρ' : Env) : List Nat → Env
  | [] => ρ'
  | v :: vs => (backE ρ ρ' vs).set v (ρ.getD v none)
/-- a block with names of its own -/
def blk {α : Type} (own : List Nat) (m : M α) : M α := fun ρ => if noOwn ρ own then (match m (wipeE ρ own) with
    | .ok a ρ' => if noOwn ρ' own then .ok a (backE ρ ρ' own) else .bad
    | .bad => .bad)
  else .bad
def fewD (xs : List D) : M Unit := fun ρ => if xs.length ≤ 1000000 then .ok () ρ else .bad
/-- one after another, what f gives is kept -/
def each (own : List Nat) (f : D → M (Option D)) : List D → M (List D)
  | [] => ret []
  | x :: xs => bnd (f x) fun y => fun ρ => if noOwn ρ own then (bnd (each own f xs) fun ys => ret (match y with
    | some d => d :: ys
    | none => ys)) (wipeE ρ own) else .bad
/-- the same within a block: these names are forgotten ahead of each -/
def each2 (own : List Nat) (f : D → M (Option D)) : List D → M (List D)
  | [] => ret []
  | x :: xs => fun ρ => if noOwn ρ own then (bnd (f x) fun y => bnd (each2 own f xs) fun ys => ret (match y with
    | some d => d :: ys
    | none => ys)) (wipeE ρ own) else .bad
/-- one after another, until f tells the end -/
def seek (own : List Nat) (f : D → M (Option D)) (stop : D → Bool) : List D → M (List D)
  | [] => ret []
  | x :: xs => bnd (f x) fun y => fun ρ => if noOwn ρ own then (match y with
    | some d => if stop d then .ok [d] ρ else (bnd (seek own f stop xs) fun ys => ret (d :: ys)) (wipeE ρ own)
    | none => seek own f stop xs (wipeE ρ own)) else .bad
def isBool : D → Bool
  | .bool _ => true
  | _ => false
def isT : D → Bool
  | .bool b => b
  | _ => false
def asBool (r : R) : M Bool := fun ρ => match r.1 with
  | .bool b => .ok b ρ
  | _ => .bad
def rangeD (lo : Int) (n : Nat) : List D := (List.range n).map fun (i : Nat) => .int (lo + i)
def smallIx (i : Int) : Bool := decide (-(2 ^ 60) ≤ i ∧ i ≤ 2 ^ 60)
def zipD : List D → List D → List D
  | x :: xs, y :: ys => .tuple [x, y] :: zipD xs ys
  | _, _ => []
def enumD : Nat → List D → List D
  | _, [] => []
  | n, x :: xs => .tuple [.int n, x] :: enumD (n + 1) xs
def zipOf : D → D → Option (List D)
  | .list xs, .list ys => some (zipD xs ys)
  | .tuple xs, .tuple ys => some (zipD xs ys)
  | _, _ => none
def enumOf : D → Option (List D)
  | .list xs => some (enumD 0 xs)
  | _ => none
def signsD (s : Str) : List D := s.cps.toList.map fun c => .str ⟨#[c]⟩
/-- a call's arguments: what comes into the parameters -/
inductive Arg where
  | val (d : D)
  | ref (i : Nat)
def chkOwn (i : Nat) : M Unit := fun ρ => match ρ[i]? with
  | some (some (.own _ _)) => .ok () ρ
  | _ => .bad
def argSl (ρ : Env) : Arg → Option Sl
  | .val d => some (.fro d)
  | .ref i => match ρ[i]? with
    | some (some (.own _ d)) => some (.own true d)
    | _ => none
def argSls (ρ : Env) : List Arg → Option (List Sl)
  | [] => some []
  | a :: as => match argSl ρ a, argSls ρ as with
    | some s, some ss => some (s :: ss)
    | _, _ => none
def setData (ρ : Env) (i : Nat) (s : Sl) : Option Env := match s, ρ[i]? with
  | .own _ d, some (some (.own b _)) => some (ρ.set i (some (.own b d)))
  | _, _ => none
/-- the lists that were lent come back -/
def backArgs : List Arg → List Sl → Env → Option Env
  | [], _, ρ => some ρ
  | .val _ :: as, _ :: ss, ρ => backArgs as ss ρ
  | .ref i :: as, s :: ss, ρ => (setData ρ i s).bind fun ρ' => backArgs as ss ρ'
  | _, _, _ => none
def refsOf : List Arg → List Nat
  | [] => []
  | .val _ :: as => refsOf as
  | .ref i :: as => i :: refsOf as
/-- what a def makes of its parameters: its value, and what the lists that were lent hold then -/
inductive FOut where
  | ok (r : R) (ps : List Sl)
  | bad
abbrev Fns := Str → List Sl → FOut
/-- the sequence in which parameters want the arguments -/
abbrev Pars := Str → List Str
def permA {α : Type} (π : List Nat) (as : List α) : Option (List α) := π.mapM fun j => as[j]?
def callF (Φ : Fns) (f : Str) (as : List Arg) : M R := fun ρ => if decide (refsOf as).Nodup then (match argSls ρ as with
    | some ss => (match Φ f ss with
      | .ok r ps => (match backArgs as ps ρ with
        | some ρ' => .ok r ρ'
        | none => .bad)
      | .bad => .bad)
    | none => .bad) else .bad
def callP (Φ : Fns) (f : Str) (as : Option (List Arg)) : M R := match as with
  | some as => callF Φ f as
  | none => fun _ => .bad
def sumInts (ds : List D) : Option Int := (intsOf ds).map List.sum
mutual
def ev (Φ : Fns) (P : Pars) : Ex → M R
  | .var i => rdVar i
  | .con d => ret (d, false)
  | .glb _ d => ret (d, false)
  | .prim p es => bnd (evOs Φ P es) (prim p)
  | .chain p q a b c => bnd (evO Φ P a) fun x => bnd (evO Φ P b) fun y => bnd (prim p [x, y]) fun r => bnd (asBool r) fun k =>
      if k then bnd (evO Φ P c) fun z => prim q [y, z] else ret (.bool false, false)
  | .sl11 a lo hi => bnd (evO Φ P a) fun x => bnd (ev Φ P lo) fun r => bnd (ev Φ P hi) fun r' => prim (.sl true true) [x, .val r.1, .val r'.1]
  | .dget a k d => bnd (evO Φ P a) fun x => bnd (dictB x) fun _ => bnd (evO Φ P k) fun y => bnd (evO Φ P d) fun z => prim .get [x, y, z]
  | .and a b => bnd (ev Φ P a) fun r => bnd (asBool r) fun k => if k then bnd (ev Φ P b) fun r' => bnd (asBool r') fun k' => ret (.bool k', false) else ret (.bool false, false)
  | .or a b => bnd (ev Φ P a) fun r => bnd (asBool r) fun k => if k then ret (.bool true, false) else bnd (ev Φ P b) fun r' => bnd (asBool r') fun k' => ret (.bool k', false)
  | .not a => bnd (ev Φ P a) fun r => bnd (asBool r) fun k => ret (.bool (!k), false)
  | .kget _ kvs k d => bnd (ev Φ P k) fun r => bnd (ev Φ P d) fun r' => (match r.1 with
    | .str z => ret ((kvs.lookup z).getD r'.1, false)
    | _ => fun _ => .bad)
  | .isi a t => bnd (ev Φ P a) fun r => ret (.bool (isiD r.1 t), false)
  | .ife c a b => bnd (ev Φ P c) fun r => bnd (asBool r) fun k => if k then ev Φ P a else ev Φ P b
  | .tup es => bnd (evs Φ P es) fun ds => ret (.tuple ds, false)
  | .lst es => bnd (evs Φ P es) fun ds => ret (.list ds, true)
  | .call f as => bnd (evA Φ P as) (callF Φ f)
  | .callK f as ks π => bnd (evA Φ P as) fun xs => bnd (evA Φ P ks) fun ys => callP Φ f (permA π (xs ++ ys))
  | .comp own tg it ifs e => bnd (evI Φ P it) fun xs => bnd (fewD xs) fun _ => bnd (blk own (each own (fun x => bnd (setTg tg (x, false)) fun _ => bnd (evC Φ P ifs) fun k =>
      if k then bnd (ev Φ P e) fun r => ret (some r.1) else ret none) xs)) fun ys => ret (.list ys, true)
  | .comp2 own own2 tg it ifs tg2 it2 ifs2 e => bnd (evI Φ P it) fun xs => bnd (blk own (each own (fun x => bnd (setTg tg (x, false)) fun _ => bnd (evC Φ P ifs) fun k =>
      if k then bnd (evI Φ P it2) fun xs2 => bnd (each2 own2 (fun x => bnd (setTg tg2 (x, false)) fun _ => bnd (evC Φ P ifs2) fun k =>
        if k then bnd (ev Φ P e) fun r => ret (some r.1) else ret none) xs2) fun ys => ret (some (.list ys)) else ret none) xs)) fun yss =>
      bnd (fewD (yss.flatMap fun ys => (itemsOf ys).getD [])) fun _ => ret (.list (yss.flatMap fun ys => (itemsOf ys).getD []), true)
  | .gen q own tg it ifs e => bnd (evI Φ P it) fun xs => bnd (blk own (seek own (fun x => bnd (setTg tg (x, false)) fun _ => bnd (evC Φ P ifs) fun k =>
      if k then bnd (ev Φ P e) fun r => (match q with
        | .sum => (match r.1 with
          | .int _ => ret (some r.1)
          | _ => fun _ => .bad)
        | _ => bnd (asBool r) fun _ => ret (some r.1)) else ret none)
      (fun d => match q with | .all => !isT d | .any => isT d | .sum => false) xs)) fun ys => match q with
      | .all => ret (.bool (ys.all isT), false)
      | .any => ret (.bool (ys.any isT), false)
      | .sum => bnd (lft (sumInts ys)) fun n => ret (.int n, false)
  | .sset e => bnd (evO Φ P e) fun b => fun ρ => match fetch ρ b with
      | some (.list xs) => (match intsOf xs with
        | some ns => if decide (ns.length ≤ 2000) then .ok (.list (sortD (ns.eraseDups.map .int)), true) ρ else .bad
        | none => .bad)
      | _ => .bad
def evO (Φ : Fns) (P : Pars) : Ex → M B
  | .var i => rdOpd i
  | .con d => ret (.val d)
  | .glb _ d => ret (.val d)
  | .prim p es => bnd (bnd (evOs Φ P es) (prim p)) fun r => ret (.val r.1)
  | e => bnd (ev Φ P e) fun r => ret (.val r.1)
def evOs (Φ : Fns) (P : Pars) : Exs → M (List B)
  | .nil => ret []
  | .cons e es => bnd (evO Φ P e) fun b => bnd (evOs Φ P es) fun bs => ret (b :: bs)
def evs (Φ : Fns) (P : Pars) : Exs → M (List D)
  | .nil => ret []
  | .cons e es => bnd (ev Φ P e) fun r => bnd (evs Φ P es) fun ds => ret (r.1 :: ds)
/-- tests in a row -/
def evC (Φ : Fns) (P : Pars) : Exs → M Bool
  | .nil => ret true
  | .cons e es => bnd (ev Φ P e) fun r => bnd (asBool r) fun k => if k then evC Φ P es else ret false
def evA (Φ : Fns) (P : Pars) : Ars → M (List Arg)
  | .nil => ret []
  | .val e as => bnd (ev Φ P e) fun r => bnd (evA Φ P as) fun xs => ret (.val r.1 :: xs)
  | .ref i as => bnd (chkOwn i) fun _ => bnd (evA Φ P as) fun xs => ret (.ref i :: xs)
def evI (Φ : Fns) (P : Pars) : It → M (List D)
  | .seq e => bnd (ev Φ P e) fun r => lft (itemsOf r.1)
  | .rng1 a => bnd (ev Φ P a) fun r => (match r.1 with
    | .int j => if smallIx j then ret (rangeD 0 j.toNat) else fun _ => .bad
    | _ => fun _ => .bad)
  | .rng2 a b => bnd (ev Φ P a) fun r => bnd (ev Φ P b) fun r' => (match r.1, r'.1 with
    | .int i, .int j => if smallIx i && smallIx j then ret (rangeD i (j - i).toNat) else fun _ => .bad
    | _, _ => fun _ => .bad)
  | .zip a b => bnd (ev Φ P a) fun r => bnd (ev Φ P b) fun r' => lft (zipOf r.1 r'.1)
  | .enum a => bnd (ev Φ P a) fun r => lft (enumOf r.1)
  | .str a => bnd (ev Φ P a) fun r => (match r.1 with
    | .str s => ret (signsD s)
    | _ => fun _ => .bad)
end
end Ty
set_option autoImplicit false
set_option maxHeartbeats 200000
/-! T1: how values stand in the heap; what an expression's computing promises. -/
namespace Ty
open PySem.Spec PyProof.Rows L2 PySem

/-! ### values in the heap -/
def keyD : Key → D
  | .inl i => .int i
  | .inr x => .str x
/-- a dict's object: its keys, its values -/
def DicO (o : HO) (ks : List D) (xs : List V) : Prop := ∃ kv : List (Key × V), o = .dK kv ∧ ks = kv.map (fun p => keyD p.1) ∧ xs = kv.map Prod.snd
mutual
inductive Rp (K : PySem.W.Frag) (H : Hp) : V → D → Prop
  | non : Rp K H .non .none
  | bl (b : Bool) : Rp K H (.bl b) (.bool b)
  | int (i : Int) : Rp K H (.int i) (.int i)
  | str (x : Str) : Rp K H (.str x) (.str x)
  | lst {a : Addr} {xs : List V} {ds : List D} : SqL K H a xs → RpAll K H xs ds → Rp K H (.ref a) (.list ds)
  | tup {a : Addr} {xs : List V} {ds : List D} : SqT K H a xs → RpAll K H xs ds → Rp K H (.ref a) (.tuple ds)
  | dic {a : Addr} {o : HO} {ks : List D} {xs : List V} {ds : List D} : Rd H a o → DicO o ks xs → RpAll K H xs ds → Rp K H (.ref a) (.dict (ks.zip ds))
inductive RpAll (K : PySem.W.Frag) (H : Hp) : List V → List D → Prop
  | nil : RpAll K H [] []
  | cons {v : V} {vs : List V} {d : D} {ds : List D} : Rp K H v d → RpAll K H vs ds → RpAll K H (v :: vs) (d :: ds)
end
def NoTbl (o : HO) : Prop := ∀ ps, o ≠ .tbl ps
/-- what is tracked, but for tables, stays -/
def Keep (H H' : Hp) : Prop := ∀ a o, H a = some o → NoTbl o → H' a = some o
theorem Keep.refl (H : Hp) : Keep H H := fun _ _ h _ => h
theorem Keep.trans {A B C : Hp} (x : Keep A B) (y : Keep B C) : Keep A C := fun a o h n => y a o (x a o h n) n
theorem DicO.notbl {o : HO} {ks : List D} {xs : List V} (h : DicO o ks xs) : NoTbl o := by
  obtain ⟨kv, rfl, _⟩ := h
  intro ps e
  cases e
section
variable {K : PySem.W.Frag} {H H' : Hp}
theorem Keep.sqL (k : Keep H H') {a : Addr} {xs : List V} (h : SqL K H a xs) : SqL K H' a xs := by
  rcases (h) with (h | ⟨o, h⟩) | h
  · exact .inl (.inl (k _ _ h (fun _ e => by cases e)))
  · exact .inl (.inr ⟨o, k _ _ h (fun _ e => by cases e)⟩)
  · exact .inr h
theorem Keep.rd (k : Keep H H') {a : Addr} {o : HO} (n : NoTbl o) (h : Rd H a o) : Rd H' a o := h.elim (fun z => .inl (k _ _ z n)) fun ⟨q, z⟩ => .inr ⟨q, k _ _ z (fun _ e => by cases e)⟩
theorem Keep.sqT (k : Keep H H') {a : Addr} {xs : List V} (h : SqT K H a xs) : SqT K H' a xs := by
  rcases (h) with (h | ⟨o, h⟩) | h
  · exact .inl (.inl (k _ _ h (fun _ e => by cases e)))
  · exact .inl (.inr ⟨o, k _ _ h (fun _ e => by cases e)⟩)
  · exact .inr h
mutual
theorem Rp.mono (k : Keep H H') : ∀ {v : V} {d : D}, Rp K H v d → Rp K H' v d
  | _, _, .non => .non
  | _, _, .bl b => .bl b
  | _, _, .int i => .int i
  | _, _, .str x => .str x
  | _, _, .lst h r => .lst (k.sqL h) (RpAll.mono k r)
  | _, _, .tup h r => .tup (k.sqT h) (RpAll.mono k r)
  | _, _, .dic h o r => .dic (k.rd o.notbl h) o (RpAll.mono k r)
theorem RpAll.mono (k : Keep H H') : ∀ {vs : List V} {ds : List D}, RpAll K H vs ds → RpAll K H' vs ds
  | _, _, .nil => .nil
  | _, _, .cons a b => .cons (Rp.mono k a) (RpAll.mono k b)
end
mutual
theorem Rp.dp : ∀ {v : V} {d : D}, Rp K H v d → d.canLay0 = true → Dp K H v d
  | _, _, .non, _ => .non
  | _, _, .bl b, _ => .bl b
  | _, _, .int i, _ => .int i
  | _, _, .str x, _ => .str x
  | _, _, .lst h r, c => .lst h (RpAll.dp r (by simpa [PyData.canLay0] using c))
  | _, _, .tup h r, c => .tup h (RpAll.dp r (by simpa [PyData.canLay0] using c))
  | _, _, .dic _ _ _, c => by simp [PyData.canLay0] at c
theorem RpAll.dp : ∀ {vs : List V} {ds : List D}, RpAll K H vs ds → PyData.canLayAll0 ds = true → DpAll K H vs ds
  | _, _, .nil, _ => .nil
  | _, _, .cons a b, c => by
    simp only [PyData.canLayAll0, Bool.and_eq_true] at c
    exact .cons (Rp.dp a c.1) (RpAll.dp b c.2)
end
theorem RpAll.length : ∀ {vs : List V} {ds : List D}, RpAll K H vs ds → vs.length = ds.length
  | _, _, .nil => rfl
  | _, _, .cons _ b => by rw [List.length_cons, List.length_cons, RpAll.length b]
theorem RpAll.get : ∀ {vs : List V} {ds : List D} {i : Nat} {d : D}, RpAll K H vs ds → ds[i]? = some d → ∃ v, vs[i]? = some v ∧ Rp K H v d
  | _, _, _, _, .nil, e => (by simp at e)
  | _, _, 0, _, .cons a _, e => by simp at e; subst e; exact ⟨_, rfl, a⟩
  | _, _, i + 1, _, .cons _ b, e => by
    obtain ⟨v, h1, h2⟩ := RpAll.get (i := i) b (by simpa using e)
    exact ⟨v, by simpa using h1, h2⟩
theorem RpAll.at : ∀ {vs : List V} {ds : List D} {i : Nat} {v : V}, RpAll K H vs ds → vs[i]? = some v → ∃ d, ds[i]? = some d ∧ Rp K H v d
  | _, _, _, _, .nil, e => (by simp at e)
  | _, _, 0, _, .cons a _, e => by simp at e; subst e; exact ⟨_, rfl, a⟩
  | _, _, i + 1, _, .cons _ b, e => by
    obtain ⟨v, h1, h2⟩ := RpAll.at (i := i) b (by simpa using e)
    exact ⟨v, by simpa using h1, h2⟩
theorem RpAll.append : ∀ {vs ws : List V} {ds es : List D}, RpAll K H vs ds → RpAll K H ws es → RpAll K H (vs ++ ws) (ds ++ es)
  | _, _, _, _, .nil, r => r
  | _, _, _, _, .cons a b, r => .cons a (RpAll.append b r)
theorem RpAll.take : ∀ {vs : List V} {ds : List D} (n : Nat), RpAll K H vs ds → RpAll K H (vs.take n) (ds.take n)
  | _, _, 0, _ => by simpa using RpAll.nil
  | _, _, _ + 1, .nil => .nil
  | _, _, n + 1, .cons a b => .cons a (RpAll.take n b)
theorem RpAll.drop : ∀ {vs : List V} {ds : List D} (n : Nat), RpAll K H vs ds → RpAll K H (vs.drop n) (ds.drop n)
  | _, _, 0, r => r
  | _, _, _ + 1, .nil => .nil
  | _, _, n + 1, .cons _ b => RpAll.drop n b
theorem RpAll.reverse {vs : List V} {ds : List D} (h : RpAll K H vs ds) : RpAll K H vs.reverse ds.reverse := by
  skip; induction vs generalizing ds with
  | nil => cases h; exact .nil
  | cons v vs ih =>
    cases h with
    | cons a b =>
      rw [(List.reverse_cons), List.reverse_cons]
      exact RpAll.append (ih b) (.cons a .nil)
theorem RpAll.dropLast {vs : List V} {ds : List D} (h : RpAll K H vs ds) : RpAll K H vs.dropLast ds.dropLast := by
  rw [List.dropLast_eq_take, List.dropLast_eq_take, h.length]
  exact h.take _
theorem RpAll.set : ∀ {vs : List V} {ds : List D} {v : V} {d : D} (i : Nat), RpAll K H vs ds → Rp K H v d → RpAll K H (vs.set i v) (ds.set i d)
  | _, _, _, _, _, .nil, _ => .nil
  | _, _, _, _, 0, .cons _ b, r => .cons r b
  | _, _, _, _, i + 1, .cons a b, r => .cons a (RpAll.set i b r)
theorem RpAll.ints : ∀ {vs : List V} {ds : List D} {ns : List Int}, RpAll K H vs ds → intsOf ds = some ns → vs = ns.map V.int ∧ ds = ns.map .int
  | _, _, _, .nil, e => by cases e; exact ⟨rfl, rfl⟩
  | _, _, ns, .cons (d := d) (ds := ds) a b, e => by
    cases a with
    | int i =>
      simp only [intsOf, Option.map_eq_some_iff] at e
      obtain ⟨ms, e1, rfl⟩ := e
      obtain ⟨h1, h2⟩ := RpAll.ints b e1
      exact ⟨by rw [h1]; rfl, by rw [h2]; rfl⟩
    | _ => simp [intsOf] at e
theorem RpAll.strs : ∀ {vs : List V} {ds : List D} {ns : List Str}, RpAll K H vs ds → strsOf ds = some ns → vs = ns.map V.str ∧ ds = ns.map .str
  | _, _, _, .nil, e => by cases e; exact ⟨rfl, rfl⟩
  | _, _, ns, .cons (d := d) (ds := ds) a b, e => by
    cases a with
    | str i =>
      simp only [strsOf, Option.map_eq_some_iff] at e
      obtain ⟨ms, e1, rfl⟩ := e
      obtain ⟨h1, h2⟩ := RpAll.strs b e1
      exact ⟨by rw [h1]; rfl, by rw [h2]; rfl⟩
    | _ => simp [strsOf] at e
end

/-! ### what may be changed -/
open Classical in
noncomputable def cut (H : Hp) (O : Addr → Prop) : Hp := fun a => if O a then none else H a
theorem cut_some {H : Hp} {O : Addr → Prop} {a : Addr} {o : HO} : cut H O a = some o ↔ H a = some o ∧ ¬ O a := by
  unfold cut
  by_cases h : O a
  · rw [if_pos h]; exact ⟨(fun e => by cases e), fun e => absurd h e.2⟩
  · rw [if_neg h]; exact ⟨fun e => ⟨e, h⟩, fun e => e.1⟩
theorem cut_keep {H : Hp} {O : Addr → Prop} : Keep (cut H O) H := fun _ _ h _ => (cut_some.mp h).1
theorem cut_sub {H : Hp} {O O' : Addr → Prop} (h : ∀ a, O' a → O a) : Keep (cut H O) (cut H O') := fun a o e _ =>
  let ⟨e1, e2⟩ := cut_some.mp e
  cut_some.mpr ⟨e1, fun z => e2 (h a z)⟩
/-- what stays when only W may have been changed -/
structure Fr (W : Addr → Prop) (H H' : Hp) : Prop where
  same : ∀ a o, H a = some o → ¬ W a → NoTbl o → H' a = some o
  some : ∀ a, H a ≠ none → H' a ≠ none
theorem Fr.refl {W : Addr → Prop} {H : Hp} : Fr W H H := ⟨fun _ _ h _ _ => h, fun _ h => h⟩
theorem Fr.trans {W W' W'' : Addr → Prop} {A B C : Hp} (x : Fr W A B) (y : Fr W' B C) (h1 : ∀ a, W a → W'' a) (h2 : ∀ a, W' a → W'' a ∨ A a = none) : Fr W'' A C :=
  ⟨fun a o h n t => y.same a o (x.same a o h (fun z => n (h1 a z)) t) (fun z => (h2 a z).elim n fun q => by rw [h] at q; cases q) t, fun a h => y.some a (x.some a h)⟩
theorem Fr.mono {W W' : Addr → Prop} {A B : Hp} (x : Fr W A B) (h : ∀ a, W a → W' a) : Fr W' A B := ⟨fun a o e n t => x.same a o e (fun z => n (h a z)) t, x.some⟩
theorem Fr.cut {W O O' : Addr → Prop} {H H' : Hp} (x : Fr W H H') (h1 : ∀ a, W a → O a) (h2 : ∀ a, O' a → O a ∨ H a = none) : Keep (cut H O) (cut H' O') := fun a o e t =>
  let ⟨e1, e2⟩ := cut_some.mp e
  cut_some.mpr ⟨x.same a o e1 (fun z => e2 (h1 a z)) t, fun z => (h2 a z).elim e2 fun q => by rw [e1] at q; cases q⟩
theorem Fr.same_of {W : Addr → Prop} {H H' : Hp} (h : Same H H') : Fr W H H' := ⟨fun a o e _ _ => h a o e, fun a e => by
  cases q : H a with
  | none => exact absurd q e
  | some o => rw [h a o q]; exact fun z => by cases z⟩

/-! ### names -/
def OwnAt (ρ : Env) (σ : L2.St) (a : Addr) : Prop := ∃ (i : Nat) (b : Bool) (d : D), ρ[i]? = some (some (.own b d)) ∧ σ[i]? = some (some (.ref a))
/-- what holds through a def's run: the written part, the lists of callers (O), what stood at its entry (T), the tables (tb) -/
structure Yc where
  K : PySem.W.Frag
  O : Addr → Prop
  T : Addr → Prop
  tb : Hp → Prop
def Ex_ (Y : Yc) (ρ : Env) (σ : L2.St) (a : Addr) : Prop := Y.O a ∨ OwnAt ρ σ a
/-- what is written in a name's own list -/
def OwnC (K : PySem.W.Frag) (H Hc : Hp) (a : Addr) (d : D) : Prop :=
  (∃ xs ds, d = .list ds ∧ H a = some (.lst xs) ∧ RpAll K Hc xs ds) ∨ (∃ o ks xs ds, d = .dict (ks.zip ds) ∧ H a = some o ∧ DicO o ks xs ∧ RpAll K Hc xs ds)
theorem OwnC.tr {K : PySem.W.Frag} {H Hc : Hp} {a : Addr} {d : D} (h : OwnC K H Hc a d) : ∃ o, H a = some o ∧ NoTbl o := by
  rcases h with ⟨xs, ds, _, h, _⟩ | ⟨o, ks, xs, ds, _, h, q, _⟩
  · exact ⟨_, h, fun _ e => by cases e⟩
  · exact ⟨_, h, q.notbl⟩
theorem OwnC.mono {K : PySem.W.Frag} {H H' Hc Hc' : Hp} {a : Addr} {d : D} (h : OwnC K H Hc a d) (e : ∀ o, H a = some o → NoTbl o → H' a = some o) (k : Keep Hc Hc') : OwnC K H' Hc' a d := by
  rcases h with ⟨xs, ds, q, h, r⟩ | ⟨o, ks, xs, ds, q, h, z, r⟩
  · exact .inl ⟨xs, ds, q, e _ h (fun _ e => by cases e), r.mono k⟩
  · exact .inr ⟨o, ks, xs, ds, q, e _ h z.notbl, z, r.mono k⟩
structure RepE (Y : Yc) (ρ : Env) (σ : L2.St) (H : Hp) : Prop where
  len : ρ.length = σ.length
  fro : ∀ (i : Nat) (d : D), ρ[i]? = some (some (.fro d)) → ∃ v, σ[i]? = some (some v) ∧ Rp Y.K (cut H (Ex_ Y ρ σ)) v d
  own : ∀ (i : Nat) (b : Bool) (d : D), ρ[i]? = some (some (.own b d)) → ∃ a, σ[i]? = some (some (.ref a)) ∧ OwnC Y.K H (cut H (Ex_ Y ρ σ)) a d ∧ (b = true → Y.O a) ∧ (b = false → ¬ Y.T a)
  inj : ∀ (i j : Nat) (b b' : Bool) (d d' : D) (a : Addr), ρ[i]? = some (some (.own b d)) → ρ[j]? = some (some (.own b' d')) → σ[i]? = some (some (.ref a)) → σ[j]? = some (some (.ref a)) → i = j
  sub : ∀ a, Y.O a → Y.T a
  trk : ∀ a, Y.T a → H a ≠ none
  tbs : Y.tb H
theorem RepE.ownTr {Y : Yc} {ρ : Env} {σ : L2.St} {H : Hp} (R : RepE Y ρ σ H) {a : Addr} (h : OwnAt ρ σ a) : ∃ o, H a = some o ∧ NoTbl o := by
  obtain ⟨i, b, d, h1, h2⟩ := h
  obtain ⟨a', e, c, _⟩ := R.own i b d h1
  rw [h2] at e
  cases e
  exact c.tr
theorem RepE.exTr {Y : Yc} {ρ : Env} {σ : L2.St} {H : Hp} (R : RepE Y ρ σ H) {a : Addr} (h : Ex_ Y ρ σ a) : H a ≠ none := by
  rcases h with h | h
  · exact R.trk a (R.sub a h)
  · obtain ⟨o, e, _⟩ := R.ownTr h
    rw [e]; exact fun z => by cases z
theorem RepE.fresh {Y : Yc} {ρ : Env} {σ : L2.St} {H : Hp} (R : RepE Y ρ σ H) {p : Addr} (h : H p = none) : ¬ Ex_ Y ρ σ p := fun z => R.exTr z h
/-- a state in which the names are the same and nothing that they lean on has changed -/
theorem RepE.keep {Y : Yc} {ρ : Env} {σ : L2.St} {H H' : Hp} (R : RepE Y ρ σ H) (f : Fr (fun _ => False) H H') (t : Y.tb H') : RepE Y ρ σ H' := by
  have k : Keep (cut H (Ex_ Y ρ σ)) (cut H' (Ex_ Y ρ σ)) := f.cut (fun _ z => z.elim) fun _ z => .inl z
  refine ⟨R.len, fun i d e => ?_, fun i b d e => ?_, R.inj, R.sub, fun a z => f.some a (R.trk a z), t⟩
  · obtain ⟨v, h1, h2⟩ := R.fro i d e
    exact ⟨v, h1, h2.mono k⟩
  · obtain ⟨a, h1, h2, h3⟩ := R.own i b d e
    exact ⟨a, h1, h2.mono (fun o e n => f.same a o e (fun z => z) n) k, h3⟩
/-- a new object is tracked -/
theorem same_new {H : Hp} {p : Addr} {o : HO} (h : H p = none) : Same H (upd H p o) := fun b x e => by
  rw [upd_ne (ne_of_none e h)]
  exact e
/-- the tables stay what they are when lists, tuples, dicts come and change -/
def TbOk (tb : Hp → Prop) : Prop := ∀ H H' : Hp, tb H → (∀ a o, H a = some o → ¬ NoTbl o ∨ (∃ φ, o = .ext φ) → H' a = some o) → tb H'
theorem TbOk.fr {tb : Hp → Prop} (t : TbOk tb) {H H' : Hp} (h : tb H) (k : ∀ a o, H a = some o → H' a = some o) : tb H' := t H H' h fun a o e _ => k a o e

/-! ### what an expression's computing promises -/
/-- the caller's lists stay the caller's -/
def Lent (ρ ρ' : Env) : Prop := ∀ (i : Nat) (d : D), ρ[i]? = some (some (.own true d)) → ∃ d', ρ'[i]? = some (some (.own true d'))
theorem Lent.refl (ρ : Env) : Lent ρ ρ := fun _ d h => ⟨d, h⟩
theorem Lent.trans {a b c : Env} (x : Lent a b) (y : Lent b c) : Lent a c := fun i d h => let ⟨d', h'⟩ := x i d h; y i d' h'
structure Post (Y : Yc) (ρ ρ' : Env) (σ : L2.St) (H H' : Hp) : Prop where
  rep : RepE Y ρ' σ H'
  frm : Fr (OwnAt ρ σ) H H'
  sub : ∀ a, OwnAt ρ' σ a → OwnAt ρ σ a
  par : Lent ρ ρ'
def Yc.plus (Y : Yc) (p : Addr) : Yc := { Y with O := fun a => Y.O a ∨ a = p, T := fun a => Y.T a ∨ a = p }
/-- a value comes: a part of what is not changed any more, or a new list -/
def ResV (Y : Yc) (ρ : Env) (σ : L2.St) (H H' : Hp) (r : R) (v : V) : Prop := match r with
  | (d, false) => Rp Y.K (cut H' (Ex_ Y ρ σ)) v d
  | (d, true) => ∃ p xs ds, v = .ref p ∧ d = .list ds ∧ H p = none ∧ H' p = some (.lst xs) ∧ ¬ Ex_ Y ρ σ p ∧ RpAll Y.K (cut H' (Ex_ (Y.plus p) ρ σ)) xs ds ∧ RepE (Y.plus p) ρ σ H'
def ResB (Y : Yc) (ρ : Env) (σ : L2.St) (H' : Hp) (b : B) (v : V) : Prop := match b with
  | .val d => Rp Y.K (cut H' (Ex_ Y ρ σ)) v d
  | .slot i => σ[i]? = some (some v)
def tM (Y : Yc) (m : M R) : TE := fun σ H Q => ∃ ρ, RepE Y ρ σ H ∧ match m ρ with
  | .ok r ρ' => ∀ v H', Post Y ρ ρ' σ H H' → ResV Y ρ' σ H H' r v → Q v H'
  | .bad => False
def tO (Y : Yc) (m : M B) : TE := fun σ H Q => ∃ ρ, RepE Y ρ σ H ∧ match m ρ with
  | .ok b ρ' => ∀ v H', Post Y ρ ρ' σ H H' → ResB Y ρ' σ H' b v → Q v H'
  | .bad => False
/-- lists of them -/
inductive ResBs (Y : Yc) (ρ : Env) (σ : L2.St) (H' : Hp) : List B → List V → Prop
  | nil : ResBs Y ρ σ H' [] []
  | cons {b : B} {bs : List B} {v : V} {vs : List V} : ResB Y ρ σ H' b v → ResBs Y ρ σ H' bs vs → ResBs Y ρ σ H' (b :: bs) (v :: vs)
def tOs (Y : Yc) (m : M (List B)) : TA := fun σ H Q => ∃ ρ, RepE Y ρ σ H ∧ match m ρ with
  | .ok bs ρ' => ∀ vs H', Post Y ρ ρ' σ H H' → ResBs Y ρ' σ H' bs vs → Q vs H'
  | .bad => False
def tMs (Y : Yc) (m : M (List D)) : TA := fun σ H Q => ∃ ρ, RepE Y ρ σ H ∧ match m ρ with
  | .ok ds ρ' => ∀ vs H', Post Y ρ ρ' σ H H' → RpAll Y.K (cut H' (Ex_ Y ρ' σ)) vs ds → Q vs H'
  | .bad => False
/-- a test -/
def tT (Y : Yc) (m : M Bool) : TT := fun σ H Q => ∃ ρ, RepE Y ρ σ H ∧ match m ρ with
  | .ok b ρ' => ∀ H', Post Y ρ ρ' σ H H' → Q b H'
  | .bad => False
section
variable {Y : Yc} {ρ ρ' ρ'' : Env} {σ : L2.St} {H H' H'' : Hp}
theorem Post.refl (R : RepE Y ρ σ H) : Post Y ρ ρ σ H H := ⟨R, .refl, fun _ h => h, .refl ρ⟩
theorem Post.trans (a : Post Y ρ ρ' σ H H') (b : Post Y ρ' ρ'' σ H' H'') : Post Y ρ ρ'' σ H H'' :=
  ⟨b.rep, a.frm.trans b.frm (fun _ h => h) (fun _ h => .inl (a.sub _ h)), fun x h => a.sub x (b.sub x h), a.par.trans b.par⟩
theorem Post.keep (a : Post Y ρ ρ' σ H H') : Keep (cut H (Ex_ Y ρ σ)) (cut H' (Ex_ Y ρ' σ)) :=
  a.frm.cut (fun _ h => .inr h) fun x h => .inl (h.elim .inl fun z => .inr (a.sub x z))
theorem Post.rp (a : Post Y ρ ρ' σ H H') {v : V} {d : D} (h : Rp Y.K (cut H (Ex_ Y ρ σ)) v d) : Rp Y.K (cut H' (Ex_ Y ρ' σ)) v d := h.mono a.keep
theorem Post.resB (a : Post Y ρ ρ' σ H H') {v : V} {b : B} (h : ResB Y ρ σ H b v) : ResB Y ρ' σ H' b v := by
  cases b with
  | val d => exact a.rp h
  | slot i => exact h
theorem Post.resBs (a : Post Y ρ ρ' σ H H') {vs : List V} {bs : List B} (h : ResBs Y ρ σ H bs vs) : ResBs Y ρ' σ H' bs vs := by
  induction h with
  | nil => exact .nil
  | cons h _ ih => exact .cons (a.resB h) ih
/-- a new list, taken as a value that is not changed any more -/
theorem ResV.rp {r : R} {v : V} (h : ResV Y ρ σ H H' r v) : Rp Y.K (cut H' (Ex_ Y ρ σ)) v r.1 := by
  obtain ⟨d, b⟩ := r
  cases b with
  | false => exact h
  | true =>
    obtain ⟨p, xs, ds, rfl, rfl, _, h1, h2, h3, _⟩ := h
    refine .lst (.inl (.inl (cut_some.mpr ⟨h1, h2⟩))) (h3.mono (cut_sub fun a z => ?_))
    exact z.elim (fun q => .inl (.inl q)) .inr
/-- nothing but a new object -/
theorem Post.new {p : Addr} {o : HO} (R : RepE Y ρ σ H) (h : H p = none) (t : TbOk Y.tb) : Post Y ρ ρ σ H (upd H p o) :=
  ⟨R.keep (.same_of (same_new h)) (t.fr R.tbs (same_new h)), .same_of (same_new h), fun _ z => z, .refl ρ⟩
theorem resV_tup {p : Addr} {xs : List V} {ds : List D} (h : H p = none) (r : RpAll Y.K (cut H (Ex_ Y ρ σ)) xs ds) (R : RepE Y ρ σ H) : Rp Y.K (cut (upd H p (.tup xs)) (Ex_ Y ρ σ)) (.ref p) (.tuple ds) := by
  have k : Keep (cut H (Ex_ Y ρ σ)) (cut (upd H p (.tup xs)) (Ex_ Y ρ σ)) := (Fr.same_of (W := fun _ => False) (same_new h)).cut (fun _ z => z.elim) fun _ z => .inl z
  exact .tup (.inl (.inl (cut_some.mpr ⟨upd_same, R.fresh h⟩))) (r.mono k)
theorem plus_ex {p a : Addr} : Ex_ (Y.plus p) ρ σ a ↔ Ex_ Y ρ σ a ∨ a = p :=
  ⟨fun z => z.elim (fun q => q.elim (fun y => .inl (.inl y)) .inr) fun q => .inl (.inr q), fun z => z.elim (fun q => q.elim (fun y => .inl (.inl y)) .inr) fun q => .inl (.inr q)⟩
/-- a list that was just made belongs to nobody yet -/
theorem RepE.plus {p : Addr} {xs : List V} (R : RepE Y ρ σ H) (h : H p = none) (t : TbOk Y.tb) : RepE (Y.plus p) ρ σ (upd H p (.lst xs)) := by
  have hne : ∀ a, Ex_ Y ρ σ a → a ≠ p := fun a z e => R.exTr z (e ▸ h)
  have k : Keep (cut H (Ex_ Y ρ σ)) (cut (upd H p (.lst xs)) (Ex_ (Y.plus p) ρ σ)) := fun a o e _ => by
    obtain ⟨e1, e2⟩ := cut_some.mp e
    refine cut_some.mpr ⟨same_new h a o e1, fun z => ?_⟩
    rcases plus_ex.mp z with z | z
    · exact e2 z
    · rw [z, h] at e1; cases e1
  refine ⟨R.len, fun i d e => ?_, fun i b d e => ?_, R.inj, fun a z => z.elim (fun q => .inl (R.sub a q)) .inr, fun a z => ?_, t.fr R.tbs (same_new h)⟩
  · obtain ⟨v, h1, h2⟩ := R.fro i d e
    exact ⟨v, h1, h2.mono k⟩
  · obtain ⟨a, h1, h2, h3, h4⟩ := R.own i b d e
    have ha : a ≠ p := hne a (.inr ⟨i, b, d, e, h1⟩)
    exact ⟨a, h1, h2.mono (fun o e _ => same_new h a o e) k, fun z => .inl (h3 z), fun z q => q.elim (h4 z) ha⟩
  · rcases z with z | z
    · exact (Fr.same_of (W := fun _ => False) (same_new h)).some a (R.trk a z)
    · rw [z, upd_same]; exact fun q => by cases q
theorem resV_new {p : Addr} {xs : List V} {ds : List D} (h : H p = none) (r : RpAll Y.K (cut H (Ex_ Y ρ σ)) xs ds) (R : RepE Y ρ σ H) (t : TbOk Y.tb) : ResV Y ρ σ H (upd H p (.lst xs)) (.list ds, true) (.ref p) := by
  refine ⟨p, xs, ds, rfl, rfl, h, upd_same, R.fresh h, r.mono fun a o e _ => ?_, R.plus h t⟩
  obtain ⟨e1, e2⟩ := cut_some.mp e
  refine cut_some.mpr ⟨same_new h a o e1, fun z => ?_⟩
  rcases plus_ex.mp z with z | z
  · exact e2 z
  · rw [z, h] at e1; cases e1
/-- the same from an earlier state -/
theorem ResV.back {H0 : Hp} {r : R} {v : V} (h : ResV Y ρ σ H H' r v) (k : ∀ a, H a = none → H0 a = none) : ResV Y ρ σ H0 H' r v := by
  obtain ⟨d, b⟩ := r
  cases b with
  | false => exact h
  | true =>
    obtain ⟨p, xs, ds, e1, e2, h0, q⟩ := h
    exact ⟨p, xs, ds, e1, e2, k p h0, q⟩
theorem Post.none (a : Post Y ρ ρ' σ H H') : ∀ x, H' x = none → H x = none := fun x h => by
  cases q : H x with
  | none => rfl
  | some o => exact absurd h (a.frm.some x (by rw [q]; exact fun z => by cases z))
end
end Ty
set_option autoImplicit false
set_option maxHeartbeats 200000
/-! T2: names, constants, displays, operands. -/
namespace Ty
open PySem.Spec PyProof.Rows L2 PySem

theorem pe_imp {X : Cx} {e : Expr} {t t' : TE} (h : PE X e t) (i : ∀ σ H Q, t' σ H Q → t σ H Q) : PE X e t' := ⟨fun pins s σ H Q I q => h.run pins s σ H Q I (i σ H Q q)⟩
theorem pa_imp {X : Cx} {e : List Expr} {t t' : TA} (h : PA X e t) (i : ∀ σ H Q, t' σ H Q → t σ H Q) : PA X e t' := ⟨fun pos pins s σ H Q I q => h.run pos pins s σ H Q I (i σ H Q q)⟩
theorem pt_imp {X : Cx} {e : Expr} {t t' : TT} (h : PT X e t) (i : ∀ σ H Q, t' σ H Q → t σ H Q) : PT X e t' := ⟨fun pins s σ H Q I q => h.run pins s σ H Q I (i σ H Q q)⟩
theorem ps_imp {X : Cx} {e : Stmt} {t t' : TS} (h : PS X e t) (i : ∀ D σ H, t' D σ H → t D σ H) : PS X e t' := ⟨fun pins s σ H D I q => h.run pins s σ H D I (i D σ H q)⟩
theorem pss_imp {X : Cx} {e : List Stmt} {t t' : TS} (h : PSs X e t) (i : ∀ D σ H, t' D σ H → t D σ H) : PSs X e t' := ⟨fun pins s σ H D I q => h.run pins s σ H D I (i D σ H q)⟩

theorem bnd_ok {α β : Type} {m : M α} {f : α → M β} {ρ ρ2 : Env} {b : β} (h : bnd m f ρ = .ok b ρ2) : ∃ a ρ1, m ρ = .ok a ρ1 ∧ f a ρ1 = .ok b ρ2 := by
  unfold bnd at h
  cases e : m ρ with
  | ok a ρ1 => rw [e] at h; exact ⟨a, ρ1, rfl, h⟩
  | bad => rw [e] at h; cases h
theorem bnd_eq {α β : Type} {m : M α} {f : α → M β} {ρ ρ1 : Env} {a : α} (h : m ρ = .ok a ρ1) : bnd m f ρ = f a ρ1 := by
  unfold bnd; rw [h]
theorem asBool_ok {r : R} {ρ ρ' : Env} {b : Bool} (h : asBool r ρ = .ok b ρ') : r.1 = .bool b ∧ ρ' = ρ := by
  obtain ⟨d, n⟩ := r
  unfold asBool at h
  cases d <;> simp at h
  exact ⟨by rw [h.1], h.2.symm⟩
/-- the readings, by what comes -/
theorem tM_of {Y : Yc} {m : M R} {σ : L2.St} {H : Hp} {Q : VK} (h : tM Y m σ H Q) : ∃ ρ r ρ', RepE Y ρ σ H ∧ m ρ = .ok r ρ' ∧ ∀ v H', Post Y ρ ρ' σ H H' → ResV Y ρ' σ H H' r v → Q v H' := by
  obtain ⟨ρ, R, h⟩ := h
  cases e : m ρ with
  | ok r ρ' => rw [e] at h; exact ⟨ρ, r, ρ', R, e, h⟩
  | bad => rw [e] at h; exact h.elim
theorem tM_mk {Y : Yc} {m : M R} {σ : L2.St} {H : Hp} {Q : VK} {ρ ρ' : Env} {r : R} (R : RepE Y ρ σ H) (e : m ρ = .ok r ρ') (h : ∀ v H', Post Y ρ ρ' σ H H' → ResV Y ρ' σ H H' r v → Q v H') : tM Y m σ H Q :=
  ⟨ρ, R, by rw [e]; exact h⟩
theorem tO_of {Y : Yc} {m : M B} {σ : L2.St} {H : Hp} {Q : VK} (h : tO Y m σ H Q) : ∃ ρ b ρ', RepE Y ρ σ H ∧ m ρ = .ok b ρ' ∧ ∀ v H', Post Y ρ ρ' σ H H' → ResB Y ρ' σ H' b v → Q v H' := by
  obtain ⟨ρ, R, h⟩ := h
  cases e : m ρ with
  | ok r ρ' => rw [e] at h; exact ⟨ρ, r, ρ', R, e, h⟩
  | bad => rw [e] at h; exact h.elim
theorem tO_mk {Y : Yc} {m : M B} {σ : L2.St} {H : Hp} {Q : VK} {ρ ρ' : Env} {b : B} (R : RepE Y ρ σ H) (e : m ρ = .ok b ρ') (h : ∀ v H', Post Y ρ ρ' σ H H' → ResB Y ρ' σ H' b v → Q v H') : tO Y m σ H Q :=
  ⟨ρ, R, by rw [e]; exact h⟩
theorem tOs_of {Y : Yc} {m : M (List B)} {σ : L2.St} {H : Hp} {Q : List V → Hp → Prop} (h : tOs Y m σ H Q) : ∃ ρ b ρ', RepE Y ρ σ H ∧ m ρ = .ok b ρ' ∧ ∀ v H', Post Y ρ ρ' σ H H' → ResBs Y ρ' σ H' b v → Q v H' := by
  obtain ⟨ρ, R, h⟩ := h
  cases e : m ρ with
  | ok r ρ' => rw [e] at h; exact ⟨ρ, r, ρ', R, e, h⟩
  | bad => rw [e] at h; exact h.elim
theorem tOs_mk {Y : Yc} {m : M (List B)} {σ : L2.St} {H : Hp} {Q : List V → Hp → Prop} {ρ ρ' : Env} {b : List B} (R : RepE Y ρ σ H) (e : m ρ = .ok b ρ') (h : ∀ v H', Post Y ρ ρ' σ H H' → ResBs Y ρ' σ H' b v → Q v H') : tOs Y m σ H Q :=
  ⟨ρ, R, by rw [e]; exact h⟩
theorem tMs_of {Y : Yc} {m : M (List D)} {σ : L2.St} {H : Hp} {Q : List V → Hp → Prop} (h : tMs Y m σ H Q) : ∃ ρ b ρ', RepE Y ρ σ H ∧ m ρ = .ok b ρ' ∧ ∀ v H', Post Y ρ ρ' σ H H' → RpAll Y.K (cut H' (Ex_ Y ρ' σ)) v b → Q v H' := by
  obtain ⟨ρ, R, h⟩ := h
  cases e : m ρ with
  | ok r ρ' => rw [e] at h; exact ⟨ρ, r, ρ', R, e, h⟩
  | bad => rw [e] at h; exact h.elim
theorem tMs_mk {Y : Yc} {m : M (List D)} {σ : L2.St} {H : Hp} {Q : List V → Hp → Prop} {ρ ρ' : Env} {b : List D} (R : RepE Y ρ σ H) (e : m ρ = .ok b ρ') (h : ∀ v H', Post Y ρ ρ' σ H H' → RpAll Y.K (cut H' (Ex_ Y ρ' σ)) v b → Q v H') : tMs Y m σ H Q :=
  ⟨ρ, R, by rw [e]; exact h⟩
theorem tT_of {Y : Yc} {m : M Bool} {σ : L2.St} {H : Hp} {Q : Bool → Hp → Prop} (h : tT Y m σ H Q) : ∃ ρ b ρ', RepE Y ρ σ H ∧ m ρ = .ok b ρ' ∧ ∀ H', Post Y ρ ρ' σ H H' → Q b H' := by
  obtain ⟨ρ, R, h⟩ := h
  cases e : m ρ with
  | ok r ρ' => rw [e] at h; exact ⟨ρ, r, ρ', R, e, h⟩
  | bad => rw [e] at h; exact h.elim
theorem tT_mk {Y : Yc} {m : M Bool} {σ : L2.St} {H : Hp} {Q : Bool → Hp → Prop} {ρ ρ' : Env} {b : Bool} (R : RepE Y ρ σ H) (e : m ρ = .ok b ρ') (h : ∀ H', Post Y ρ ρ' σ H H' → Q b H') : tT Y m σ H Q :=
  ⟨ρ, R, by rw [e]; exact h⟩

section
variable {Y : Yc} {ρ ρ' : Env} {σ : L2.St} {H H' : Hp}
theorem ownAt_set {i : Nat} {s : Option Sl} (h : ∀ b d, s ≠ some (.own b d)) {a : Addr} (z : OwnAt (ρ.set i s) σ a) : OwnAt ρ σ a := by
  obtain ⟨j, b, d, h1, h2⟩ := z
  by_cases e : i = j
  · subst e
    by_cases hi : i < ρ.length
    · rw [List.getElem?_set_self hi] at h1
      exact absurd (Option.some.inj h1) (h b d)
    · rw [List.getElem?_eq_none (by simpa using hi)] at h1; cases h1
  · rw [List.getElem?_set_ne e] at h1
    exact ⟨j, b, d, h1, h2⟩
/-- a list of its own is given away -/
theorem RepE.freeze (R : RepE Y ρ σ H) {i : Nat} {d : D} (e : ρ[i]? = some (some (.own false d))) : ∃ a, σ[i]? = some (some (.ref a)) ∧ Rp Y.K (cut H (Ex_ Y (ρ.set i (some (.fro d))) σ)) (.ref a) d ∧ RepE Y (ρ.set i (some (.fro d))) σ H := by
  obtain ⟨a, ha, hc, _, hT⟩ := R.own i false d e
  have sub : ∀ x, OwnAt (ρ.set i (some (.fro d))) σ x → OwnAt ρ σ x := fun x => ownAt_set (by intro b d q; cases q)
  have subE : ∀ x, Ex_ Y (ρ.set i (some (.fro d))) σ x → Ex_ Y ρ σ x := fun x z => z.elim .inl fun q => .inr (sub x q)
  have hi : i < ρ.length := by
    rcases Nat.lt_or_ge i ρ.length with h | h
    · exact h
    · rw [List.getElem?_eq_none h] at e; cases e
  have nex : ¬ Ex_ Y (ρ.set i (some (.fro d))) σ a := fun z => by
    rcases z with z | ⟨j, b, d', h1, h2⟩
    · exact hT rfl (R.sub a z)
    · by_cases q : i = j
      · subst q
        rw [List.getElem?_set_self hi] at h1; cases h1
      · rw [List.getElem?_set_ne q] at h1
        exact q (R.inj i j false b d d' a e h1 ha h2)
  have k : Keep (cut H (Ex_ Y ρ σ)) (cut H (Ex_ Y (ρ.set i (some (.fro d))) σ)) := cut_sub subE
  have rp : Rp Y.K (cut H (Ex_ Y (ρ.set i (some (.fro d))) σ)) (.ref a) d := by
    rcases hc with ⟨xs, ds, rfl, h, r⟩ | ⟨o, ks, xs, ds, rfl, h, z, r⟩
    · exact .lst (.inl (.inl (cut_some.mpr ⟨h, nex⟩))) (r.mono k)
    · exact .dic (.inl (cut_some.mpr ⟨h, nex⟩)) z (r.mono k)
  refine ⟨a, ha, rp, ⟨by simpa using R.len, fun j d' e' => ?_, fun j b d' e' => ?_, fun j j' b b' d1 d2 x e1 e2 => ?_, R.sub, R.trk, R.tbs⟩⟩
  · by_cases q : i = j
    · subst q
      rw [List.getElem?_set_self hi] at e'
      cases e'
      exact ⟨_, ha, rp⟩
    · rw [List.getElem?_set_ne q] at e'
      obtain ⟨v, h1, h2⟩ := R.fro j d' e'
      exact ⟨v, h1, h2.mono k⟩
  · by_cases q : i = j
    · subst q
      rw [List.getElem?_set_self hi] at e'; cases e'
    · rw [List.getElem?_set_ne q] at e'
      obtain ⟨x, h1, h2, h3⟩ := R.own j b d' e'
      exact ⟨x, h1, h2.mono (fun _ h _ => h) k, h3⟩
  · have q1 : i ≠ j := fun q => by subst q; rw [List.getElem?_set_self hi] at e1; cases e1
    have q2 : i ≠ j' := fun q => by subst q; rw [List.getElem?_set_self hi] at e2; cases e2
    rw [List.getElem?_set_ne q1] at e1
    rw [List.getElem?_set_ne q2] at e2
    exact R.inj j j' b b' d1 d2 x e1 e2

theorem lent_set {i : Nat} {d d' : D} (h : ρ[i]? = some (some (.own false d))) : Lent ρ (ρ.set i (some (.fro d'))) := fun j e z => by
  have ne : i ≠ j := fun q => by subst q; rw [h] at z; cases z
  exact ⟨e, by rw [List.getElem?_set_ne ne]; exact z⟩
/-! ### names, constants -/
theorem im_var {i : Nat} {Q : VK} (h : tM Y (rdVar i) σ H Q) : tVar i σ H Q := by
  obtain ⟨ρ, r, ρ', R, e, q⟩ := tM_of h
  unfold rdVar at e
  split at e
  · rename_i d hd
    cases e
    obtain ⟨v, h1, h2⟩ := R.fro i d hd
    exact ⟨v, h1, q v H (.refl R) h2⟩
  · rename_i d hd
    cases e
    obtain ⟨a, h1, h2, h3⟩ := R.freeze hd
    exact ⟨_, h1, q _ H ⟨h3, .refl, fun x => ownAt_set (by intro b d q; cases q), lent_set hd⟩ h2⟩
  · cases e
theorem im_opd {i : Nat} {Q : VK} (h : tO Y (rdOpd i) σ H Q) : tVar i σ H Q := by
  obtain ⟨ρ, r, ρ', R, e, q⟩ := tO_of h
  unfold rdOpd at e
  split at e
  · rename_i d hd
    cases e
    obtain ⟨v, h1, h2⟩ := R.fro i d hd
    exact ⟨v, h1, q v H (.refl R) h2⟩
  · rename_i b d hd
    cases e
    obtain ⟨a, h1, h2⟩ := R.own i b d hd
    exact ⟨_, h1, q _ H (.refl R) h1⟩
  · cases e
theorem im_con {d : D} {v : V} {Q : VK} (r : ∀ K' H', Rp K' H' v d) (h : tM Y (ret (d, false)) σ H Q) : L2.tC v σ H Q := by
  obtain ⟨ρ, r', ρ', R, e, q⟩ := tM_of h
  cases e
  exact q v H (.refl R) (r _ _)
theorem im_conO {d : D} {v : V} {Q : VK} (r : ∀ K' H', Rp K' H' v d) (h : tO Y (ret (.val d)) σ H Q) : L2.tC v σ H Q := by
  obtain ⟨ρ, r', ρ', R, e, q⟩ := tO_of h
  cases e
  exact q v H (.refl R) (r _ _)
/-- a value as an operand -/
theorem im_val {m : M R} {Q : VK} (h : tO Y (bnd m fun r => ret (.val r.1)) σ H Q) : tM Y m σ H Q := by
  obtain ⟨ρ, b, ρ', R, e, q⟩ := tO_of h
  obtain ⟨r, ρ1, e1, e2⟩ := bnd_ok e
  cases e2
  exact tM_mk R e1 fun v H' P hv => q v H' P hv.rp
end

/-! ### lists of values, of operands -/
section
variable {Y : Yc} {X : Cx} {e : Expr} {es : List Expr}
theorem pa_nilO : PA X [] (tOs Y (ret [])) := pa_imp pa_nil fun σ H Q h => by
  obtain ⟨ρ, b, ρ', R, e, q⟩ := tOs_of h
  cases e
  exact q [] H (.refl R) .nil
theorem pa_nilM : PA X [] (tMs Y (ret [])) := pa_imp pa_nil fun σ H Q h => by
  obtain ⟨ρ, b, ρ', R, e, q⟩ := tMs_of h
  cases e
  exact q [] H (.refl R) .nil
theorem pa_consO {m : M B} {ms : M (List B)} (h1 : PE X e (tO Y m)) (h2 : PA X es (tOs Y ms)) (hs : starEach (e :: es) X.env = (false, eval e X.env) :: starEach es X.env) :
    PA X (e :: es) (tOs Y (bnd m fun b => bnd ms fun bs => ret (b :: bs))) := pa_imp (pa_cons h1 h2 hs) fun σ H Q h => by
  obtain ⟨ρ, b, ρ', R, e, q⟩ := tOs_of h
  obtain ⟨b1, ρ1, e1, e2⟩ := bnd_ok e
  obtain ⟨bs, ρ2, e3, e4⟩ := bnd_ok e2
  cases e4
  refine tO_mk R e1 fun v H1 P1 r1 => ?_
  refine tOs_mk P1.rep e3 fun vs H2 P2 r2 => ?_
  exact q _ _ (P1.trans P2) (.cons (P2.resB r1) r2)
theorem pa_consM {m : M R} {ms : M (List D)} (h1 : PE X e (tM Y m)) (h2 : PA X es (tMs Y ms)) (hs : starEach (e :: es) X.env = (false, eval e X.env) :: starEach es X.env) :
    PA X (e :: es) (tMs Y (bnd m fun r => bnd ms fun ds => ret (r.1 :: ds))) := pa_imp (pa_cons h1 h2 hs) fun σ H Q h => by
  obtain ⟨ρ, b, ρ', R, e, q⟩ := tMs_of h
  obtain ⟨b1, ρ1, e1, e2⟩ := bnd_ok e
  obtain ⟨bs, ρ2, e3, e4⟩ := bnd_ok e2
  cases e4
  refine tM_mk R e1 fun v H1 P1 r1 => ?_
  refine tMs_mk P1.rep e3 fun vs H2 P2 r2 => ?_
  exact q _ _ (P1.trans P2) (.cons (P2.rp r1.rp) r2)
theorem small_sz {n : Nat} (h : n ≤ 1000000) : n ≤ sizeLine := by rw [sizeLine_eq]; omega
theorem pe_tupM {ms : M (List D)} {x1 : Nat} {pos : Pos} (t : TbOk Y.tb) (hl : es.length ≤ 1000000) (h : PA X es (tMs Y ms)) (hn : ∀ ρ ds ρ', ms ρ = .ok ds ρ' → ds.length = es.length) :
    PE X (.Tuple es x1 pos) (tM Y (bnd ms fun ds => ret (.tuple ds, false))) := pe_imp (pe_tup h) fun σ H Q h => by
  obtain ⟨ρ, r, ρ', R, e, q⟩ := tM_of h
  obtain ⟨ds, ρ1, e1, e2⟩ := bnd_ok e
  cases e2
  refine tMs_mk R e1 fun vs H1 P1 r1 => ⟨by rw [r1.length, hn _ _ _ e1]; exact small_sz hl, fun p np => ?_⟩
  exact q _ _ (P1.trans (.new P1.rep np t)) (resV_tup np r1 P1.rep)
theorem pe_lstM {ms : M (List D)} {pos : Pos} (t : TbOk Y.tb) (hl : es.length ≤ 1000000) (h : PA X es (tMs Y ms)) (hn : ∀ ρ ds ρ', ms ρ = .ok ds ρ' → ds.length = es.length) :
    PE X (.List es pos) (tM Y (bnd ms fun ds => ret (.list ds, true))) := pe_imp (pe_lst h) fun σ H Q h => by
  obtain ⟨ρ, r, ρ', R, e, q⟩ := tM_of h
  obtain ⟨ds, ρ1, e1, e2⟩ := bnd_ok e
  cases e2
  refine tMs_mk R e1 fun vs H1 P1 r1 => ⟨by rw [r1.length, hn _ _ _ e1]; exact small_sz hl, fun p np => ?_⟩
  exact q _ _ (P1.trans (.new P1.rep np t)) ((resV_new np r1 P1.rep t).back P1.none)
end

/-! ### operands at an operation -/
/-- an operand may be read: a part of what is not changed any more, or a name's own list -/
def Top (K : PySem.W.Frag) (H : Hp) (O : Addr → Prop) (v : V) (d : D) : Prop := Rp K (cut H O) v d ∨ ∃ a, v = .ref a ∧ OwnC K H (cut H O) a d
inductive Tops (K : PySem.W.Frag) (H : Hp) (O : Addr → Prop) : List V → List D → Prop
  | nil : Tops K H O [] []
  | cons {v : V} {vs : List V} {d : D} {ds : List D} : Top K H O v d → Tops K H O vs ds → Tops K H O (v :: vs) (d :: ds)
section
variable {Y : Yc} {ρ ρ' : Env} {σ : L2.St} {H H' : Hp}
theorem top_of (R : RepE Y ρ σ H) {b : B} {v : V} {d : D} (h : ResB Y ρ σ H b v) (e : fetch ρ b = some d) : Top Y.K H (Ex_ Y ρ σ) v d := by
  cases b with
  | val d' => cases e; exact .inl h
  | slot i =>
    have h' : σ[i]? = some (some v) := h
    unfold fetch at e
    simp only at e
    split at e
    · rename_i b d' hd
      cases e
      obtain ⟨a, h1, h2, _⟩ := R.own i b _ hd
      rw [h1] at h'
      cases h'
      exact .inr ⟨a, rfl, h2⟩
    · rename_i d' hd
      cases e
      obtain ⟨v', h1, h2⟩ := R.fro i _ hd
      rw [h1] at h'
      cases h'
      exact .inl h2
    · cases e
theorem tops_of (R : RepE Y ρ σ H) {bs : List B} {vs : List V} (h : ResBs Y ρ σ H bs vs) : ∀ {ds : List D}, fetchAll ρ bs = some ds → Tops Y.K H (Ex_ Y ρ σ) vs ds := by
  induction h with
  | nil => intro ds e; cases e; exact .nil
  | @cons b bs v vs h1 _ ih =>
    intro ds e
    unfold fetchAll at e
    split at e
    · rename_i d ds' e1 e2
      cases e
      exact .cons (top_of R h1 e1) (ih e2)
    · cases e
theorem prim_ok {p : Prim} {bs : List B} {r : R} (h : prim p bs ρ = .ok r ρ') : ∃ ds, fetchAll ρ bs = some ds ∧ app p ds = some r ∧ ρ' = ρ := by
  unfold prim at h
  split at h
  · rename_i ds e
    split at h
    · rename_i r' e'
      cases h
      exact ⟨ds, e, e', rfl⟩
    · cases h
  · cases h
/-- what an operation on values has to do -/
def rD (Y : Yc) (p : Prim) : List V → Hp → VK → Prop := fun vs H Q => ∃ ρ σ ds r, RepE Y ρ σ H ∧ Tops Y.K H (Ex_ Y ρ σ) vs ds ∧ app p ds = some r ∧ ∀ v H', Post Y ρ ρ σ H H' → ResV Y ρ σ H H' r v → Q v H'
theorem rD_of {p : Prim} {bs : List B} {vs : List V} {r : R} {Q : VK} (R : RepE Y ρ σ H) (h : ResBs Y ρ σ H bs vs) (e : prim p bs ρ = .ok r ρ') (q : ∀ v H', Post Y ρ ρ' σ H H' → ResV Y ρ' σ H H' r v → Q v H') : rD Y p vs H Q := by
  obtain ⟨ds, e1, e2, rfl⟩ := prim_ok e
  exact ⟨_, σ, ds, r, R, tops_of R h e1, e2, q⟩
end
/-- values at an operation: their first objects -/
theorem Top.list {K : PySem.W.Frag} {H : Hp} {O : Addr → Prop} {v : V} {ds : List D} (h : Top K H O v (.list ds)) : ∃ a xs, v = .ref a ∧ SqL K H a xs ∧ RpAll K (cut H O) xs ds := by
  rcases h with h | ⟨a, rfl, h⟩
  · cases h with
    | lst h r => exact ⟨_, _, rfl, cut_keep.sqL h, r⟩
  · rcases h with ⟨xs, ds', e, h, r⟩ | ⟨o, ks, xs, ds', e, _⟩
    · cases e; exact ⟨a, xs, rfl, .of h, r⟩
    · cases e
theorem Top.tuple {K : PySem.W.Frag} {H : Hp} {O : Addr → Prop} {v : V} {ds : List D} (h : Top K H O v (.tuple ds)) : ∃ a xs, v = .ref a ∧ SqT K H a xs ∧ RpAll K (cut H O) xs ds := by
  rcases h with h | ⟨a, rfl, h⟩
  · cases h with
    | tup h r => exact ⟨_, _, rfl, cut_keep.sqT h, r⟩
  · rcases h with ⟨xs, ds', e, h, r⟩ | ⟨o, ks, xs, ds', e, _⟩ <;> cases e
theorem Top.int {K : PySem.W.Frag} {H : Hp} {O : Addr → Prop} {v : V} {i : Int} (h : Top K H O v (.int i)) : v = .int i := by
  rcases h with h | ⟨a, rfl, h⟩
  · cases h; rfl
  · rcases h with ⟨xs, ds', e, h, r⟩ | ⟨o, ks, xs, ds', e, _⟩ <;> cases e
theorem Top.str {K : PySem.W.Frag} {H : Hp} {O : Addr → Prop} {v : V} {i : Str} (h : Top K H O v (.str i)) : v = .str i := by
  rcases h with h | ⟨a, rfl, h⟩
  · cases h; rfl
  · rcases h with ⟨xs, ds', e, h, r⟩ | ⟨o, ks, xs, ds', e, _⟩ <;> cases e
theorem Top.bl {K : PySem.W.Frag} {H : Hp} {O : Addr → Prop} {v : V} {i : Bool} (h : Top K H O v (.bool i)) : v = .bl i := by
  rcases h with h | ⟨a, rfl, h⟩
  · cases h; rfl
  · rcases h with ⟨xs, ds', e, h, r⟩ | ⟨o, ks, xs, ds', e, _⟩ <;> cases e
theorem Top.non {K : PySem.W.Frag} {H : Hp} {O : Addr → Prop} {v : V} (h : Top K H O v .none) : v = .non := by
  rcases h with h | ⟨a, rfl, h⟩
  · cases h; rfl
  · rcases h with ⟨xs, ds', e, h, r⟩ | ⟨o, ks, xs, ds', e, _⟩ <;> cases e
theorem Top.dp {K : PySem.W.Frag} {H : Hp} {O : Addr → Prop} {v : V} {d : D} (h : Top K H O v d) (c : d.canLay0 = true) : Dp K H v d := by
  rcases h with h | ⟨a, rfl, h⟩
  · exact (h.mono cut_keep).dp c
  · rcases h with ⟨xs, ds', rfl, h, r⟩ | ⟨o, ks, xs, ds', rfl, _⟩
    · exact .lst (.of h) ((r.mono cut_keep).dp (by simpa [PyData.canLay0] using c))
    · simp [PyData.canLay0] at c
end Ty
set_option autoImplicit false
set_option maxHeartbeats 200000
/-! T3: operations on values. -/
namespace Ty
open PySem.Spec PyProof.Rows L2 PySem

section
variable {Y : Yc} {X : Cx}
theorem tops1 {K : PySem.W.Frag} {H : Hp} {O : Addr → Prop} {x : V} {ds : List D} (h : Tops K H O [x] ds) : ∃ d, ds = [d] ∧ Top K H O x d := by
  cases h with
  | cons a b => cases b; exact ⟨_, rfl, a⟩
theorem tops2 {K : PySem.W.Frag} {H : Hp} {O : Addr → Prop} {x y : V} {ds : List D} (h : Tops K H O [x, y] ds) : ∃ d e, ds = [d, e] ∧ Top K H O x d ∧ Top K H O y e := by
  cases h with
  | cons a b =>
    obtain ⟨e, rfl, q⟩ := tops1 b
    exact ⟨_, e, rfl, a, q⟩
theorem rD1 {p : Prim} {x : V} {H : Hp} {Q : VK} (h : rD Y p [x] H Q) : ∃ ρ σ d r, RepE Y ρ σ H ∧ Top Y.K H (Ex_ Y ρ σ) x d ∧ app p [d] = some r ∧ ∀ v H', Post Y ρ ρ σ H H' → ResV Y ρ σ H H' r v → Q v H' := by
  obtain ⟨ρ, σ, ds, r, R, T, e, q⟩ := h
  obtain ⟨d, rfl, t⟩ := tops1 T
  exact ⟨ρ, σ, d, r, R, t, e, q⟩
theorem rD2 {p : Prim} {x y : V} {H : Hp} {Q : VK} (h : rD Y p [x, y] H Q) : ∃ ρ σ d d' r, RepE Y ρ σ H ∧ Top Y.K H (Ex_ Y ρ σ) x d ∧ Top Y.K H (Ex_ Y ρ σ) y d' ∧ app p [d, d'] = some r ∧ ∀ v H', Post Y ρ ρ σ H H' → ResV Y ρ σ H H' r v → Q v H' := by
  obtain ⟨ρ, σ, ds, r, R, T, e, q⟩ := h
  obtain ⟨d, d', rfl, t, t'⟩ := tops2 T
  exact ⟨ρ, σ, d, d', r, R, t, t', e, q⟩
/-- the heap stays: a plain value -/
theorem stays {ρ : Env} {σ : L2.St} {H : Hp} {Q : VK} {d : D} {v : V} (R : RepE Y ρ σ H) (q : ∀ v H', Post Y ρ ρ σ H H' → ResV Y ρ σ H H' (d, false) v → Q v H') (r : Rp Y.K (cut H (Ex_ Y ρ σ)) v d) : Q v H := q v H (.refl R) r

/-! ### ints -/
theorem or_I {f : Value → Value → Sem Value} {C : Int → Int → Prop} {g : Int → Int → V} {p : Prim} (h : OpR X f (rI C g))
    (hp : ∀ d e r, app p [d, e] = some r → ∃ i j k, d = .int i ∧ e = .int j ∧ C i j ∧ g i j = .int k ∧ r = (.int k, false)) : OpR X f (fun x y => rD Y p [x, y]) := by
  intro pins s σ H x y v u Q I rx ry z
  obtain ⟨ρ, σ', d, e, r, R, t1, t2, ea, q⟩ := rD2 z
  obtain ⟨i, j, k, rfl, rfl, c, hg, rfl⟩ := hp d e r ea
  exact h pins s σ H x y v u Q I rx ry ⟨i, j, t1.int, t2.int, c, by rw [hg]; exact stays R q (.int k)⟩
theorem or_I0 {f : Value → Value → Sem Value} {g : Int → Int → V} {p : Prim} (h : OpR X f (rI0 g))
    (hp : ∀ d e r, app p [d, e] = some r → ∃ i j k, d = .int i ∧ e = .int j ∧ g i j = .int k ∧ r = (.int k, false)) : OpR X f (fun x y => rD Y p [x, y]) := by
  intro pins s σ H x y v u Q I rx ry z
  obtain ⟨ρ, σ', d, e, r, R, t1, t2, ea, q⟩ := rD2 z
  obtain ⟨i, j, k, rfl, rfl, hg, rfl⟩ := hp d e r ea
  exact h pins s σ H x y v u Q I rx ry ⟨i, j, t1.int, t2.int, by rw [hg]; exact stays R q (.int k)⟩
theorem intD_of {f : Int → Int → Option Int} {d e : D} {r : R} (h : intD f d e = some r) : ∃ i j k, d = .int i ∧ e = .int j ∧ f i j = some k ∧ r = (.int k, false) := by
  unfold intD at h
  split at h
  · rename_i i j
    obtain ⟨k, h1, h2⟩ := Option.map_eq_some_iff.mp h
    exact ⟨i, j, k, rfl, rfl, h1, h2.symm⟩
  · cases h
theorem ite_some {α : Type} {c : Prop} [Decidable c] {a b : α} (h : (if c then some a else none) = some b) : c ∧ a = b := by
  split at h
  · exact ⟨by assumption, Option.some.inj h⟩
  · cases h
theorem ite_opt {α : Type} {c : Prop} [Decidable c] {a : Option α} {b : α} (h : (if c then a else none) = some b) : c ∧ a = some b := by
  split at h
  · exact ⟨by assumption, h⟩
  · cases h
theorem dr_sub : OpR X (binaryOp .Sub) (fun x y => rD Y .sub [x, y]) := or_I0 op_sub fun d e r h => by
  obtain ⟨i, j, k, rfl, rfl, h1, rfl⟩ := intD_of h
  cases h1
  exact ⟨i, j, _, rfl, rfl, rfl, rfl⟩
theorem dr_mul : OpR X (binaryOp .Mult) (fun x y => rD Y .mul [x, y]) := by
  intro pins s σ H x y v u Q I rx ry z
  obtain ⟨ρ, σ', d, e, r, R, t1, t2, ea, q⟩ := rD2 z
  obtain ⟨i, j, k, rfl, rfl, h1, rfl⟩ := intD_of ea
  obtain ⟨c, rfl⟩ := ite_some h1
  simp only [Bool.or_eq_true, Bool.and_eq_true, small, mid, decide_eq_true_eq] at c
  rcases c with c | ⟨c1, c2⟩
  · exact op_mul pins s σ H x y v u Q I rx ry ⟨i, j, t1.int, t2.int, c, stays R q (.int _)⟩
  · exact op_mulW pins s σ H x y v u Q I rx ry ⟨i, j, t1.int, t2.int, wide_mul c1 c2 (by decide) (by decide) (by decide), stays R q (.int _)⟩
theorem dr_fdiv : OpR X (binaryOp .FloorDiv) (fun x y => rD Y .fdiv [x, y]) := or_I op_fdiv fun d e r h => by
  obtain ⟨i, j, k, rfl, rfl, h1, rfl⟩ := intD_of h
  obtain ⟨c, rfl⟩ := ite_some h1
  simp only [Bool.and_eq_true, decide_eq_true_eq] at c
  exact ⟨i, j, _, rfl, rfl, c, rfl, rfl⟩
theorem dr_mod : OpR X (binaryOp .Mod) (fun x y => rD Y .mod [x, y]) := or_I op_mod fun d e r h => by
  obtain ⟨i, j, k, rfl, rfl, h1, rfl⟩ := intD_of h
  obtain ⟨c, rfl⟩ := ite_some h1
  exact ⟨i, j, _, rfl, rfl, of_decide_eq_true c, rfl, rfl⟩
theorem nat_small {i : Int} (h : small i = true) : i.natAbs < 2 ^ 64 := by
  unfold small at h
  have h := of_decide_eq_true h
  omega
theorem dr_pow : OpR X (binaryOp .Pow) (fun x y => rD Y .pow [x, y]) := or_I op_pow fun d e r h => by
  obtain ⟨i, j, k, rfl, rfl, h1, rfl⟩ := intD_of h
  obtain ⟨c, rfl⟩ := ite_some h1
  simp only [Bool.and_eq_true, decide_eq_true_eq] at c
  exact ⟨i, j, _, rfl, rfl, ⟨c.1.1, by omega, nat_small c.2⟩, rfl, rfl⟩
theorem dr_shl : OpR X (binaryOp .LShift) (fun x y => rD Y .shl [x, y]) := or_I op_shl fun d e r h => by
  obtain ⟨i, j, k, rfl, rfl, h1, rfl⟩ := intD_of h
  obtain ⟨c, rfl⟩ := ite_some h1
  simp only [Bool.and_eq_true, decide_eq_true_eq] at c
  exact ⟨i, j, _, rfl, rfl, ⟨c.1.1, c.1.2, nat_small c.2⟩, rfl, rfl⟩
theorem dr_shr : OpR X (binaryOp .RShift) (fun x y => rD Y .shr [x, y]) := or_I op_shr fun d e r h => by
  obtain ⟨i, j, k, rfl, rfl, h1, rfl⟩ := intD_of h
  obtain ⟨c, rfl⟩ := ite_some h1
  exact ⟨i, j, _, rfl, rfl, of_decide_eq_true c, rfl, rfl⟩
theorem dr_band : OpR X (binaryOp .BitAnd) (fun x y => rD Y .band [x, y]) := or_I0 op_and fun d e r h => by
  obtain ⟨i, j, k, rfl, rfl, h1, rfl⟩ := intD_of h
  cases h1
  exact ⟨i, j, _, rfl, rfl, rfl, rfl⟩
theorem dr_bor : OpR X (binaryOp .BitOr) (fun x y => rD Y .bor [x, y]) := or_I0 op_or fun d e r h => by
  obtain ⟨i, j, k, rfl, rfl, h1, rfl⟩ := intD_of h
  cases h1
  exact ⟨i, j, _, rfl, rfl, rfl, rfl⟩
theorem dr_bxor : OpR X (binaryOp .BitXor) (fun x y => rD Y .bxor [x, y]) := or_I0 op_xor fun d e r h => by
  obtain ⟨i, j, k, rfl, rfl, h1, rfl⟩ := intD_of h
  cases h1
  exact ⟨i, j, _, rfl, rfl, rfl, rfl⟩
theorem dr_neg : UnR X (unaryOp .USub) (fun x => rD Y .neg [x]) := by
  intro pins s σ H x v Q I rx z
  obtain ⟨ρ, σ', d, r, R, t, ea, q⟩ := rD1 z
  cases d <;> simp [app] at ea
  subst ea
  exact un_neg pins s σ H x v Q I rx ⟨_, t.int, stays R q (.int _)⟩
theorem dr_inv : UnR X (unaryOp .Invert) (fun x => rD Y .inv [x]) := by
  intro pins s σ H x v Q I rx z
  obtain ⟨ρ, σ', d, r, R, t, ea, q⟩ := rD1 z
  cases d <;> simp [app] at ea
  subst ea
  exact un_inv pins s σ H x v Q I rx ⟨_, t.int, stays R q (.int _)⟩

/-! ### + -/
theorem list_cat : OpR X (binaryOp .Add) (fun x y H Q => ∃ l b xs zs, x = .ref l ∧ y = .ref b ∧ SqL X.K H l xs ∧ SqL X.K H b zs ∧ xs.length + zs.length ≤ sizeLine ∧ ∀ p, H p = none → Q (.ref p) (upd H p (.lst (xs ++ zs)))) := by
  intro pins; intro s σ H x y v u Q I rx ry h
  obtain ⟨l, b, xs, zs, rfl, rfl, hH, hB, hz, q⟩ := (h)
  cases rx
  cases ry
  obtain ⟨its, r, ⟨⟨c1, d1, t1, l1⟩, n1, g1, k1, z1, e1⟩, _⟩ := I.list hH
  obtain ⟨its2, r2, ⟨⟨c2, d2, t2, l2⟩, n2, g2, k2, z2, e2⟩, _⟩ := I.list hB
  simp only at k1 z1 e1 k2 z2 e2
  subst k1 z1 e1 k2 z2 e2
  have hz' : its.toArray.size + its2.toArray.size ≤ sizeLine := by
    rw [List.size_toArray, List.size_toArray, ← r.length, ← r2.length]; exact hz
  have both : its.toArray ++ its2.toArray = (its ++ its2).toArray := by simp
  have step := list_addW l b its.toArray its2.toArray n1 n2 none none l1 l2 hz'
  refine concat_meets ⟨_, g1, rfl⟩ ⟨_, g2, rfl⟩ noFill_list_add seq_list_add
    PySem.F.slot_list_add PySem.F.entry_list_add (PySem.F.args_list_add_2 _ _) step ⟨g1, g2, ?_⟩
  rw [both]
  exact ⟨.ref _, _, I.lnew (t' := s.toks) (r.append r2) (by rw [List.length_append]; exact hz), rfl, q _ I.fresh⟩
theorem rpAll_nil {K : PySem.W.Frag} {H : Hp} {ds : List D} {xs : List V} (h : RpAll K H xs ds) : xs = [] ↔ ds = [] := by
  cases h <;> simp
theorem Top.rpT {K : PySem.W.Frag} {H : Hp} {O : Addr → Prop} {v : V} {ds : List D} (h : Top K H O v (.tuple ds)) : Rp K (cut H O) v (.tuple ds) := by
  rcases h with h | ⟨a, rfl, h⟩
  · exact h
  · rcases h with ⟨xs, ds', e, h, r⟩ | ⟨o, ks, xs, ds', e, _⟩ <;> cases e
/-- a new tuple, a new list -/
theorem newT (ht : TbOk Y.tb) {ρ : Env} {σ : L2.St} {H : Hp} {Q : VK} {xs : List V} {ds : List D} (R : RepE Y ρ σ H) (q : ∀ v H', Post Y ρ ρ σ H H' → ResV Y ρ σ H H' (.tuple ds, false) v → Q v H')
    (r : RpAll Y.K (cut H (Ex_ Y ρ σ)) xs ds) : ∀ p, H p = none → Q (.ref p) (upd H p (.tup xs)) := fun p np => q _ _ (.new R np ht) (resV_tup np r R)
theorem newL (ht : TbOk Y.tb) {ρ : Env} {σ : L2.St} {H : Hp} {Q : VK} {xs : List V} {ds : List D} (R : RepE Y ρ σ H) (q : ∀ v H', Post Y ρ ρ σ H H' → ResV Y ρ σ H H' (.list ds, true) v → Q v H')
    (r : RpAll Y.K (cut H (Ex_ Y ρ σ)) xs ds) : ∀ p, H p = none → Q (.ref p) (upd H p (.lst xs)) := fun p np => q _ _ (.new R np ht) (resV_new np r R ht)
theorem dr_add (hK : Y.K = X.K) (ht : TbOk Y.tb) : OpR X (binaryOp .Add) (fun x y => rD Y .add [x, y]) := by
  intro pins s σ H x y v u Q I rx ry z
  obtain ⟨ρ, σ', d, e, r, R, t1, t2, ea, q⟩ := rD2 z
  replace ea : addD d e = some r := ea
  unfold addD at ea
  split at ea
  · cases ea
    exact op_add pins s σ H x y v u Q I rx ry ⟨_, _, t1.int, t2.int, stays R q (.int _)⟩
  · obtain ⟨c, rfl⟩ := ite_some ea
    exact op_add_str pins s σ H x y v u Q I rx ry ⟨_, _, t1.str, t2.str, small_sz c, stays R q (.str _)⟩
  · obtain ⟨c, rfl⟩ := ite_some ea
    rename_i xs ys
    have p1 := t1.rpT
    have p2 := t2.rpT
    obtain ⟨a, vs, rfl, h1, r1⟩ := t1.tuple
    obtain ⟨b, ws, rfl, h2, r2⟩ := t2.tuple
    rw [hK] at h1 h2
    refine op_catA pins s σ H _ _ v u Q I rx ry ⟨a, b, vs, ws, rfl, rfl, h1, h2, by rw [r1.length, r2.length]; exact small_sz c, fun e => ?_, fun _ e => ?_, fun _ _ => newT ht R q (r1.append r2)⟩
    · have e1 := (rpAll_nil r1).mp e
      subst e1
      exact stays R q p2
    · have e1 := (rpAll_nil r2).mp e
      subst e1
      rw [List.append_nil] at q
      exact stays R q p1
  · obtain ⟨c, rfl⟩ := ite_some ea
    rename_i xs ys
    obtain ⟨a, vs, rfl, h1, r1⟩ := t1.list
    obtain ⟨b, ws, rfl, h2, r2⟩ := t2.list
    rw [hK] at h1 h2
    exact list_cat pins s σ H _ _ v u Q I rx ry ⟨a, b, vs, ws, rfl, rfl, h1, h2, by rw [r1.length, r2.length]; exact small_sz c, newL ht R q (r1.append r2)⟩
  · cases ea

/-! ### == and in -/
theorem fine_of {d : D} (h : fine d = true) : SeqAt.shaped d = true ∧ d.canLay0 = true ∧ d.depth ≤ 60 := by
  simp only [fine, Bool.and_eq_true, decide_eq_true_eq] at h
  refine ⟨?_, h.1, h.2⟩
  show (d.canLay0 && decide (d.depth ≤ 64)) = true
  rw [h.1, decide_eq_true (by omega)]; rfl
theorem dr_eq (hK : Y.K = X.K) (hu : X.A.units + 70 < cLine) : OpR X (compareOp .Eq) (fun x y => rD Y .eq [x, y]) := by
  intro pins s σ H x y v u Q I rx ry z
  obtain ⟨ρ, σ', d, e, r, R, t1, t2, ea, q⟩ := rD2 z
  obtain ⟨c, rfl⟩ := ite_some ea
  rw [Bool.and_eq_true] at c
  obtain ⟨s1, l1, _⟩ := fine_of c.1
  obtain ⟨s2, l2, _⟩ := fine_of c.2
  have d1 := t1.dp l1
  have d2 := t2.dp l2
  rw [hK] at d1 d2
  exact op_eqD (by omega) pins s σ H x y v u Q I rx ry ⟨d, e, d1, d2, s1, s2, stays R q (.bl _)⟩
theorem dr_ne (hK : Y.K = X.K) (hu : X.A.units + 70 < cLine) : OpR X (compareOp .NotEq) (fun x y => rD Y .ne [x, y]) := by
  intro pins s σ H x y v u Q I rx ry z
  obtain ⟨ρ, σ', d, e, r, R, t1, t2, ea, q⟩ := rD2 z
  obtain ⟨c, rfl⟩ := ite_some ea
  rw [Bool.and_eq_true] at c
  obtain ⟨s1, l1, _⟩ := fine_of c.1
  obtain ⟨s2, l2, _⟩ := fine_of c.2
  have d1 := t1.dp l1
  have d2 := t2.dp l2
  rw [hK] at d1 d2
  exact op_neD (by omega) pins s σ H x y v u Q I rx ry ⟨d, e, d1, d2, s1, s2, stays R q (.bl _)⟩
theorem inD_of {x y : D} {b : Bool} (h : inD x y = some b) : ∃ ys, (y = .list ys ∨ y = .tuple ys) ∧ fine x = true ∧ fine y = true ∧ b = ys.any fun z => PyData.eqv z x := by
  unfold inD at h
  split at h
  · obtain ⟨c, rfl⟩ := ite_some h
    rw [Bool.and_eq_true] at c
    exact ⟨_, .inl rfl, c.1, c.2, rfl⟩
  · rename_i ys
    obtain ⟨c, rfl⟩ := ite_some h
    rw [Bool.and_eq_true] at c
    have e : fine (.tuple ys) = fine (.list ys) := by simp [fine, PyData.canLay0, PyData.depth]
    exact ⟨_, .inr rfl, c.1, by rw [e]; exact c.2, rfl⟩
  · cases h
theorem dr_in (hK : Y.K = X.K) (hu : X.A.units + 70 < cLine) : OpR X (compareOp .In) (fun x y => rD Y .isin [x, y]) := by
  intro pins s σ H x y v u Q I rx ry z
  obtain ⟨ρ, σ', d, e, r, R, t1, t2, ea, q⟩ := rD2 z
  obtain ⟨b, e1, rfl⟩ := Option.map_eq_some_iff.mp (show (inD d e).map (fun b => ((.bool b, false) : Ty.R)) = some r from ea)
  obtain ⟨ys, hy, f1, f2, rfl⟩ := inD_of e1
  obtain ⟨s1, l1, p1⟩ := fine_of f1
  obtain ⟨s2, l2, p2⟩ := fine_of f2
  have d1 := t1.dp l1
  have d2 := t2.dp l2
  rw [hK] at d1 d2
  obtain ⟨as, q1⟩ := Dp.reads I d x v d1 rx
  obtain ⟨bs, q2⟩ := Dp.reads I e y u d2 ry
  have fin : EP X pins σ Q (.bool (ys.any fun z => PyData.eqv z d)) s := ⟨.bl _, H, I, rfl, stays R q (.bl _)⟩
  rcases hy with rfl | rfl
  · exact SeqAt.in_list_reads q2 q1 (by simpa [PyData.canLay0] using l2) l1 (by have := Nat.min_le_right (PyData.depthAll ys) d.depth; omega) fin
  · exact SeqAt.in_tuple_reads q2 q1 (by simpa [PyData.canLay0] using l2) l1 (by have := Nat.min_le_right (PyData.depthAll ys) d.depth; omega) fin
theorem dr_notin (hK : Y.K = X.K) (hu : X.A.units + 70 < cLine) : OpR X (compareOp .NotIn) (fun x y => rD Y .notin [x, y]) := by
  intro pins s σ H x y v u Q I rx ry z
  obtain ⟨ρ, σ', d, e, r, R, t1, t2, ea, q⟩ := rD2 z
  obtain ⟨b, e1, rfl⟩ := Option.map_eq_some_iff.mp (show (inD d e).map (fun b => ((.bool (!b), false) : Ty.R)) = some r from ea)
  obtain ⟨ys, hy, f1, f2, rfl⟩ := inD_of e1
  obtain ⟨s1, l1, p1⟩ := fine_of f1
  obtain ⟨s2, l2, p2⟩ := fine_of f2
  have d1 := t1.dp l1
  have d2 := t2.dp l2
  rw [hK] at d1 d2
  obtain ⟨as, q1⟩ := Dp.reads I d x v d1 rx
  obtain ⟨bs, q2⟩ := Dp.reads I e y u d2 ry
  have fin : EP X pins σ Q (.bool (!ys.any fun z => PyData.eqv z d)) s := ⟨.bl _, H, I, rfl, stays R q (.bl _)⟩
  rcases hy with rfl | rfl
  · exact SeqAt.notIn_list_reads q2 q1 (by simpa [PyData.canLay0] using l2) l1 (by have := Nat.min_le_right (PyData.depthAll ys) d.depth; omega) fin
  · exact SeqAt.notIn_tuple_reads q2 q1 (by simpa [PyData.canLay0] using l2) l1 (by have := Nat.min_le_right (PyData.depthAll ys) d.depth; omega) fin
theorem top_non {K : PySem.W.Frag} {H : Hp} {O : Addr → Prop} {v : V} {d : D} (h : Top K H O v d) : decide (v = .non) = (match d with | .none => true | _ => false) := by
  rcases h with h | ⟨a, rfl, h⟩
  · cases h <;> simp
  · rcases h with ⟨xs, ds', rfl, h, r⟩ | ⟨o, ks, xs, ds', rfl, _⟩ <;> simp

/-! ### items, slices -/
theorem ixNat_ix (n : Nat) (i : Int) : ixNat n i = ixN n i := rfl
theorem atI_of {vs : List V} {ds : List D} {K : PySem.W.Frag} {H : Hp} {i : Int} {d : D} (r : RpAll K H vs ds) (h : ((ixNat ds.length i).bind fun j => ds[j]?) = some d) : ∃ v, atI vs i = some v ∧ Rp K H v d := by
  obtain ⟨j, h1, h2⟩ := Option.bind_eq_some_iff.mp h
  obtain ⟨v, h3, h4⟩ := r.get h2
  refine ⟨v, ?_, h4⟩
  unfold atI
  rw [r.length, ← ixNat_ix, h1]
  exact h3
/-! ### dicts -/
theorem keyEq_iff {k k' : Key} : keyEq (keyD k') (keyD k) = decide (k' = k) := by
  cases k <;> cases k' <;> simp [keyD, keyEq]
theorem key_of_D {d : D} (h : isKey d = true) : ∃ k, d = keyD k := by
  cases d <;> simp [isKey] at h
  · exact ⟨.inl _, rfl⟩
  · exact ⟨.inr _, rfl⟩
theorem top_key {K : PySem.W.Frag} {H : Hp} {O : Addr → Prop} {v : V} {k : Key} (h : Top K H O v (keyD k)) : v = kV k := by
  cases k with
  | inl i => exact h.int
  | inr x => exact h.str
theorem Top.dict {K : PySem.W.Frag} {H : Hp} {O : Addr → Prop} {v : V} {kvs : List (D × D)} (h : Top K H O v (.dict kvs)) : ∃ a kv ds, v = .ref a ∧ Rd H a (.dK kv) ∧ RpAll K (cut H O) (kv.map Prod.snd) ds ∧ kvs = (kv.map fun p => keyD p.1).zip ds := by
  rcases h with h | ⟨a, rfl, h⟩
  · cases h with
    | dic h o r =>
      obtain ⟨kv, rfl, rfl, rfl⟩ := o
      exact ⟨_, kv, _, rfl, cut_keep.rd (fun _ e => by cases e) h, r, rfl⟩
  · rcases h with ⟨xs, ds', e, h, r⟩ | ⟨o, ks, xs, ds, e, h, o', r⟩
    · cases e
    · obtain ⟨kv, rfl, rfl, rfl⟩ := o'
      cases e
      exact ⟨a, kv, ds, rfl, .inl h, r, rfl⟩
theorem seek_of {K : PySem.W.Frag} {H : Hp} {k : Key} : ∀ {kv : List (Key × V)} {ds : List D}, RpAll K H (kv.map Prod.snd) ds →
    (∃ v d, valV kv k = some v ∧ seekKv ((kv.map fun p => keyD p.1).zip ds) (keyD k) = some d ∧ Rp K H v d) ∨ (valV kv k = none ∧ seekKv ((kv.map fun p => keyD p.1).zip ds) (keyD k) = none)
  | [], _, .nil => .inr ⟨rfl, rfl⟩
  | p :: kv, _, .cons (d := d) (ds := ds) a b => by
    have e : seekKv (((p :: kv).map fun p => keyD p.1).zip (d :: ds)) (keyD k) = if decide (p.1 = k) = true then some d else seekKv ((kv.map fun p => keyD p.1).zip ds) (keyD k) := by
      show (if keyEq (keyD p.1) (keyD k) = true then some d else _) = _
      rw [keyEq_iff]; rfl
    have e2 : valV (p :: kv) k = if decide (p.1 = k) = true then some p.2 else valV kv k := by
      unfold valV
      rw [List.find?_cons]
      cases h : decide (p.1 = k) <;> simp
    rw [e, e2]
    cases h : decide (p.1 = k) with
    | true => exact .inl ⟨_, _, if_pos rfl, if_pos rfl, a⟩
    | false =>
      rw [(if_neg (by simp)), if_neg (by simp)]
      exact seek_of b
theorem ix_dict (hu : X.A.units + 1 < cLine) : IxR X (fun x y H Q => ∃ a v, x = .ref a ∧ DGet H a y (some v) ∧ Q v H) := by
  intro value slice pins s σ H x y v u Q I rx ry z hs
  obtain ⟨a, r, rfl, g, q⟩ := z
  cases rx
  exact tail_any (dict_typeIs I g) PySem.F.slot_dict_getitem.lookup (d_getItem hu I g ry fun w' s3 I3 rw' => ⟨r, H, I3, rw', q⟩) hs
theorem dr_idx (hK : Y.K = X.K) (hu : X.A.units + 70 < cLine) : IxR X (fun x y => rD Y .idx [x, y]) := by
  intro value slice pins s σ H x y v u Q I rx ry z hs
  obtain ⟨ρ, σ', d, e, r, R, t1, t2, ea, q⟩ := rD2 z
  replace ea : idxD d e = some r := ea
  unfold idxD at ea
  split at ea
  · obtain ⟨c, ea⟩ := ite_opt ea
    obtain ⟨d', e3, rfl⟩ := Option.map_eq_some_iff.mp ea
    obtain ⟨k, rfl⟩ := key_of_D c
    obtain ⟨a, kv, ds, rfl, h1, r1, rfl⟩ := t1.dict
    rcases seek_of (k := k) r1 with ⟨v', d2, h2, h3, h4⟩ | ⟨_, h3⟩
    · rw [h3] at e3
      cases e3
      exact ix_dict (by omega) value slice pins s σ H _ _ v u Q I rx ry ⟨a, v', rfl, .inl ⟨kv, k, h1, top_key t2, h2.symm⟩, stays R q h4⟩ hs
    · rw [h3] at e3
      cases e3
  · rename_i xs i
    obtain ⟨a, vs, rfl, h1, r1⟩ := t1.list
    rw [hK] at h1
    obtain ⟨j, e1, e2⟩ := Option.bind_eq_some_iff.mp ea
    obtain ⟨d', e3, rfl⟩ := Option.map_eq_some_iff.mp e2
    obtain ⟨w, h3, h4⟩ := atI_of r1 (i := i) (d := d') (Option.bind_eq_some_iff.mpr ⟨j, e1, e3⟩)
    exact ix_list value slice pins s σ H _ _ v u Q I rx ry ⟨a, vs, i, w, rfl, t2.int, h1, h3, stays R q h4⟩ hs
  · rename_i xs i
    obtain ⟨a, vs, rfl, h1, r1⟩ := t1.tuple
    rw [hK] at h1
    obtain ⟨j, e1, e2⟩ := Option.bind_eq_some_iff.mp ea
    obtain ⟨d', e3, rfl⟩ := Option.map_eq_some_iff.mp e2
    obtain ⟨w, h3, h4⟩ := atI_of r1 (i := i) (d := d') (Option.bind_eq_some_iff.mpr ⟨j, e1, e3⟩)
    exact ix_tup value slice pins s σ H _ _ v u Q I rx ry ⟨a, vs, i, w, rfl, t2.int, h1, h3, stays R q h4⟩ hs
  · rename_i z i
    obtain ⟨c0, ea⟩ := ite_opt ea
    obtain ⟨j, e1, e2⟩ := Option.bind_eq_some_iff.mp ea
    obtain ⟨c, e3, rfl⟩ := Option.map_eq_some_iff.mp e2
    refine ix_str value slice pins s σ H _ _ v u Q I rx ry ⟨z, i, c, t1.str, t2.int, small_sz c0, ?_, stays R q (.str _)⟩ hs
    unfold atI
    rw [← ixNat_ix, e1]
    exact e3
  · cases ea
end
end Ty
set_option autoImplicit false
set_option maxHeartbeats 200000
/-! TS: sorting lists of tuples of which some are empty; insertion sort is what sorted gives. -/
namespace Ty
open PySem PySem.Spec PyProof.Rows L2 PySem.W PySem.Calls

section
variable {prog : Program}
variable {w : World} {A : Around} {E : Value → Shared → Prop} {s : Shared}
/-- tuple's < under its own name -/
theorem tup_less {Q : Value → Shared → Prop} {l b : Addr} {us ws : Array Value} {e r : Nat → Bool} (hl : s.heap.IsTuple l us) (hb : s.heap.IsTuple b ws)
    (k1 : ∀ j (h1 : j < us.size) (h2 : j < ws.size), SeqAt.EqAt A.in1 s us[j] ws[j] (e j)) (k2 : ∀ j (h1 : j < us.size) (h2 : j < ws.size), e j = false → SeqAt.RcLt A.in1 s us[j] ws[j] (r j))
    (q : Q (.bool (SeqAt.firstLt e r (decide (us.size < ws.size)) (List.range (min us.size ws.size)))) s) : wpAny (model prog w) A (call (.builtin "tuple.__lt__") [.ref l, .ref b]) Q E s := by
  obtain ⟨⟨c1, d1, t1, l1⟩, g1, e1, n1, z1⟩ := hl
  obtain ⟨⟨c2, d2, t2, l2⟩, g2, e2, n2, z2⟩ := hb
  cases e1; cases z1; cases e2; cases z2
  exact call_meets F.slot_tuple_lt ⟨_, g1, rfl⟩ F.entry_tuple_lt (F.args_tuple_lt_2 _ _) (SeqAt.tuple_ltAt l b us ws n1 n2 d1 d2 l1 l2 e r) ⟨g1, g2, k1, k2, q⟩
theorem one_tups {xs ys : List D} {a b : Value} {as bs : List Addr} {Q : Bool → Shared → Prop} (ra : Reads s.heap a (.tuple xs) as) (rb : Reads s.heap b (.tuple ys) bs) (h : alike (.tuple xs) (.tuple ys) = true)
    (hu : A.units + min (PyData.depth (.tuple xs)) (PyData.depth (.tuple ys)) < cLine) (q : Q (dataLt (.tuple xs) (.tuple ys)) s) : wpAny (model prog w) A (oneLt' true a b) Q E s := by
  have al : alikeAll xs ys = true := by simpa [alike] using h
  cases ra with
  | @tuple l o vs n _ _ h1 h2 h3 h4 =>
    cases rb with
    | @tuple l' o' vs' n' _ _ g1 g2 g3 g4 =>
      have n1 : vs.size = xs.length := by simpa using SeqAt.ReadsAll.length _ _ _ h4
      have n2 : vs'.size = ys.length := by simpa using SeqAt.ReadsAll.length _ _ _ g4
      rw [dataLt_tuple, ← firstLt_toks xs ys al, ← n1, ← n2] at q
      rw [oneLt'_eq, if_pos rfl]
      have hu0 : A.units < cLine := by omega
      have hu1 : A.in1.units + min (PyData.depthAll xs) (PyData.depthAll ys) < cLine := by
        show A.units + 1 + _ < cLine
        simp only [PyData.depth, PyData.depth] at hu
        omega
      refine wpAny_bind (wpAny_cRoomFor hu0 (wpAny_bind (wpAny_callSpecialIfBound?_slot (T := "tuple") ⟨_, h1, h2⟩ F.slot_tuple_lt (tup_less (e := SeqAt.pairEq xs ys) (r := fun j => dataLt (xs.getD j .none) (ys.getD j .none)) ⟨_, h1, h2, _, h3⟩ ⟨_, g1, g2, _, g3⟩ (fun j j1 j2 => ?_) (fun j j1 j2 hj => ?_) (wpAny_truthy_bool q)))))
      · have z := eqAt_alikeAll xs ys A.in1 s vs.toList vs'.toList _ _ h4 g4 al hu1 j (by simpa using j1) (by simpa using j2)
        rw [Array.getElem_toList, Array.getElem_toList] at z
        exact z
      · have z := rcLt_alikeAll xs ys A.in1 s vs.toList vs'.toList _ _ h4 g4 al hu1 j (by simpa using j1) (by simpa using j2) hj
        rw [Array.getElem_toList, Array.getElem_toList] at z
        exact z
/-- some of the tuples are empty -/
def full : D → Bool
  | .tuple (_ :: _) => true
  | _ => false
theorem firsts_all {M : Model} : ∀ {vs : List Value} {ds : List D} {Q : List (Option Value) → Shared → Prop}, EachIs (fun v d => ∃ as, Reads s.heap v d as) vs ds → (∀ d ∈ ds, ∃ xs, d = .tuple xs) →
    (∀ fs : List (Option Value), fs.map Option.isSome = ds.map full → Q fs s) → wpAny M A (vs.mapM firstOfTuple') Q E s
  | [], _, Q, .nil, _, q => by
    rw [List.mapM_nil]
    exact wpAny_pure (q [] rfl)
  | v :: vs, d :: ds, Q, .cons ⟨as, r⟩ es, ht, q => by
    obtain ⟨xs, rfl⟩ := ht d (.head _)
    rw [List.mapM_cons]
    cases r with
    | @tuple l o us n _ _ h1 h2 h3 h4 =>
      refine wpAny_bind ?_
      rw [kas_first_eq]
      refine wpAny_bind (Looks.here (show Looks M s.heap (typeOf (.ref l)) o.cls from (Looks.ld h1).andThen .now) ?_)
      rw [h2, if_neg (by decide)]
      refine wpAny_bind (listItems_at h1 h3 (wpAny_pure (wpAny_bind (firsts_all es (fun d hd => ht d (.tail _ hd)) fun fs hf => wpAny_pure (q _ ?_)))))
      rw [List.map_cons, List.map_cons, hf]
      congr 1
      have z := SeqAt.ReadsAll.length _ _ _ h4
      cases xs with
      | nil =>
        have e : us = #[] := by
          refine Array.eq_empty_of_size_eq_zero ?_
          simpa using z
        rw [e]; rfl
      | cons x xs =>
        have e : 0 < us.size := by
          have z' : us.size = (x :: xs).length := by simpa using z
          rw [z', List.length_cons]; omega
        rw [Array.getElem?_eq_getElem e]; rfl
theorem kind_some_empty {M : Model} {vs : List Value} {ds : List D} {Q : SortKind → Shared → Prop} (e : EachIs (fun v d => ∃ as, Reads s.heap v d as) vs ds) (ht : ∀ d ∈ ds, ∃ xs, d = .tuple xs) (h2 : 2 ≤ vs.length)
    (h0 : .tuple [] ∈ ds) (q : Q (if (ds.headD .none |> full) then general' else oneType') s) : wpAny M A (keyKind' vs.toArray) Q E s := by
  rw [(keyKind'_eq), List.mapM_toArray, map_eq_pure_bind]
  refine wpAny_bind (wpAny_bind (firsts_all e ht fun fs hf => wpAny_pure ?_))
  have na : (fs.toArray.all fun x => x.isSome) = false := by
    rw [List.all_toArray]
    cases z : fs.all fun x => x.isSome with
    | false => rfl
    | true =>
      exfalso
      have z1 : (fs.map Option.isSome).all id = true := by rw [List.all_map]; exact z
      rw [hf, List.all_map, List.all_eq_true] at z1
      exact absurd (z1 _ h0) (by simp [full])
  rw [na, if_neg (by simp)]
  cases e with
  | nil => simp at h2
  | @cons v d vs' ds' hv es =>
    cases fs with
    | nil => simp at hf
    | cons f fs =>
      rw [List.map_cons, List.map_cons] at hf
      have hd := (List.cons.inj hf).1
      have g : (((f :: fs).toArray[0]?).bind id).isSome = full d := by simpa using hd
      rw [g]
      show wpAny M A (if full d = true then pure general' else _) Q E s
      have q' : Q (if full d = true then general' else oneType') s := q
      cases hfd : full d with
      | true =>
        rw [hfd, if_pos rfl] at q'
        rw [if_pos rfl]
        exact wpAny_pure q'
      | false =>
        rw [hfd, if_neg (by simp)] at q'
        rw [if_neg (by simp)]
        have lk : ∀ u ∈ v :: vs', Looks M s.heap (typeOf u) (.type "tuple") := fun u hu => by
          obtain ⟨d', hd', as, r⟩ := (EachIs.cons hv es).left u hu
          obtain ⟨xs, rfl⟩ := ht d' hd'
          exact looks_reads r
        rw [(oneTypeOnly'_eq), List.mapM_toArray, map_eq_pure_bind]
        refine wpAny_bind (wpAny_bind (wpAny_bind (kas_mapM (r := Value.type "tuple") _ (fun u hu Q' hq => (lk u hu).here hq) (wpAny_pure ?_))))
        have h0 : ((v :: vs').map fun _ => Value.type "tuple").toArray[0]? = some (Value.type "tuple") := rfl
        rw [h0]
        have al : (((v :: vs').map fun _ => Value.type "tuple").toArray.all fun x => x == Value.type "tuple") = true := by
          rw [List.all_toArray, List.all_map, List.all_eq_true]
          intro _ _
          exact beq_self_eq_true _
        simp only [al, if_true]
        exact wpAny_pure (wpAny_pure q')
theorem sorts_some_empty {vs : List Value} {ds : List D} (e : EachIs (fun v d => ∃ as, Reads s.heap v d as) vs ds) (hal : AllAlike ds) (ht : ∀ d ∈ ds, ∃ xs, d = .tuple xs) (h0 : .tuple [] ∈ ds)
    (hu : ∀ d, d ∈ ds → A.units + d.depth < cLine) : SortsAt prog w A s (dataKind s.heap ds) vs := by
  refine ⟨fun v hv => ?_, if (ds.headD .none |> full) then general' else oneType', ?_, fun h2 E Q q => kind_some_empty e ht h2 h0 q⟩
  · obtain ⟨d, hd, as, r⟩ := (e.left v hv)
    exact (⟨_, dataKind_some hal hd r⟩)
  · intro E x y a b Q ha hb q
    obtain ⟨d, as, hd, ra, rfl⟩ := (dataKind_inv ha)
    obtain ⟨d', as', hd', rb, rfl⟩ := (dataKind_inv hb)
    have room : A.units + min d.depth d'.depth < cLine := Nat.lt_of_le_of_lt (Nat.add_le_add_left (Nat.min_le_left _ _) _) (hu d hd)
    obtain ⟨xs, rfl⟩ := ht d hd
    obtain ⟨ys, rfl⟩ := ht d' hd'
    cases full (ds.headD .none) with
    | true =>
      show wpAny (model prog w) A (oneLt' false x y) Q E s
      exact oneLt_alike (fun z => by cases z) ra rb (hal _ hd _ hd') (by simp) room q
    | false =>
      show wpAny (model prog w) A (oneLt' true x y) Q E s
      exact one_tups ra rb (hal _ hd _ hd') room q
end
end Ty
set_option autoImplicit false
set_option maxHeartbeats 200000
/-! T3b: comparisons, slices, built-in functions. -/
namespace Ty
open PySem.Spec PyProof.Rows L2 PySem

theorem ltD_eq (x y : D) : ltD x y = PySem.W.dataLt x y := by
  unfold ltD
  split
  · rw [PySem.W.dataLt_int]
  · rfl
section
variable {Y : Yc} {X : Cx}
theorem rel_of {p : D → D → Bool} {x y : D} {r : Ty.R} (h : relD p x y = some r) : PySem.W.alike x y = true ∧ x ≠ .none ∧ fine x = true ∧ fine y = true ∧ r = (.bool (p x y), false) := by
  unfold relD at h
  split at h
  · cases h
    exact ⟨by simp [PySem.W.alike], by simp, by simp [fine, PyData.depth, PyData.canLay0], by simp [fine, PyData.depth, PyData.canLay0], rfl⟩
  · obtain ⟨c, rfl⟩ := ite_some h
    simp only [Bool.and_eq_true, Bool.not_eq_true'] at c
    refine ⟨c.1.1.1, ?_, c.1.2, c.2, rfl⟩
    rintro rfl
    simp [isNone] at c
theorem dr_rel {op : CmpOp} {p : Prim} {f : D → D → Bool} (hK : Y.K = X.K) (hp : ∀ d e, app p [d, e] = relD f d e)
    (hf : ∀ {s : Shared} {a b : Value} {da db : D} {as bs : List Addr} {Q : Value → Shared → Prop}, Reads s.heap a da as → Reads s.heap b db bs → PySem.W.alike da db = true → da ≠ .none → X.A.units + min da.depth db.depth < cLine → Q (.bool (f da db)) s → wpAny (model X.prog X.w) X.A (compareOp op a b) Q X.xe s)
    (hu : X.A.units + 70 < cLine) : OpR X (compareOp op) (fun x y => rD Y p [x, y]) := by
  intro pins s σ H x y v u Q I rx ry z
  obtain ⟨ρ, σ', d, e, r, R, t1, t2, ea, q⟩ := rD2 z
  rw [hp] at ea
  obtain ⟨al, hn, f1, f2, rfl⟩ := rel_of ea
  obtain ⟨_, l1, p1⟩ := fine_of f1
  obtain ⟨_, l2, _⟩ := fine_of f2
  have d1 := t1.dp l1
  have d2 := t2.dp l2
  rw [hK] at d1 d2
  obtain ⟨as, q1⟩ := Dp.reads I d x v d1 rx
  obtain ⟨bs, q2⟩ := Dp.reads I e y u d2 ry
  exact hf q1 q2 al hn (by have := Nat.min_le_left d.depth e.depth; omega) ⟨.bl _, H, I, rfl, stays R q (.bl _)⟩
theorem dr_lt (hK : Y.K = X.K) (hu : X.A.units + 70 < cLine) : OpR X (compareOp .Lt) (fun x y => rD Y .lt [x, y]) :=
  dr_rel (f := ltD) hK (fun _ _ => rfl) (fun a b c d e q => PySem.W.lt_data a b c d e (by simpa only [ltD_eq] using q)) hu
theorem dr_gt (hK : Y.K = X.K) (hu : X.A.units + 70 < cLine) : OpR X (compareOp .Gt) (fun x y => rD Y .gt [x, y]) :=
  dr_rel (f := fun x y => ltD y x) hK (fun _ _ => rfl) (fun a b c d e q => PySem.W.gt_data a b c d e (by simpa only [ltD_eq] using q)) hu
theorem dr_le (hK : Y.K = X.K) (hu : X.A.units + 70 < cLine) : OpR X (compareOp .LtE) (fun x y => rD Y .le [x, y]) :=
  dr_rel (f := fun x y => !ltD y x) hK (fun _ _ => rfl) (fun a b c d e q => PySem.W.le_data a b c d e (by simpa only [ltD_eq] using q)) hu
theorem dr_ge (hK : Y.K = X.K) (hu : X.A.units + 70 < cLine) : OpR X (compareOp .GtE) (fun x y => rD Y .ge [x, y]) :=
  dr_rel (f := fun x y => !ltD x y) hK (fun _ _ => rfl) (fun a b c d e q => PySem.W.ge_data a b c d e (by simpa only [ltD_eq] using q)) hu

/-! ### slices -/
theorem RpAll.cut {K : PySem.W.Frag} {H : Hp} {xs : List V} {ds : List D} {lo hi : Option Int} (h : RpAll K H xs ds) : RpAll K H (cutV xs lo hi) (cutL ds lo hi) := by
  unfold cutV cutL
  rw [h.length]
  exact (h.drop _).take _
theorem Top.isInt {K : PySem.W.Frag} {H : Hp} {O : Addr → Prop} {i : Int} {d : D} (h : Top K H O (.int i) d) : d = .int i := by
  rcases h with h | ⟨a, e, _⟩
  · cases h; rfl
  · cases e
def asI (lo hi : Option Int) : List V := lo.toList.map V.int ++ hi.toList.map V.int
theorem app_sl {bl bh : Bool} {K : PySem.W.Frag} {H : Hp} {O : Addr → Prop} {lo hi : Option Int} {d : D} {ds : List D} (e1 : lo.isSome = bl) (e2 : hi.isSome = bh) (T : Tops K H O (asI lo hi) ds) : app (.sl bl bh) (d :: ds) = sliceD d lo hi := by
  subst e1 e2
  cases lo with
  | none =>
    cases hi with
    | none => cases T; rfl
    | some j =>
      obtain ⟨d1, rfl, t⟩ := tops1 T
      rw [t.isInt]; rfl
  | some i =>
    cases hi with
    | none =>
      obtain ⟨d1, rfl, t⟩ := tops1 T
      rw [t.isInt]; rfl
    | some j =>
      obtain ⟨d1, d2, rfl, t, t'⟩ := tops2 T
      rw [t.isInt, t'.isInt]; rfl
theorem dr_sl {bl bh : Bool} (hK : Y.K = X.K) (ht : TbOk Y.tb) : SlR X (fun x lo hi H Q => lo.isSome = bl ∧ hi.isSome = bh ∧ rD Y (.sl bl bh) (x :: asI lo hi) H Q) := by
  intro pins s σ H x v vl vu lo hi sl Q I rx hs pl pu z
  obtain ⟨e1, e2, ρ, σ', ds, r, R, T, ea, q⟩ := z
  cases T with
  | @cons _ _ d ds t1 T2 =>
  rw [app_sl e1 e2 T2] at ea
  unfold sliceD at ea
  split at ea
  · cases ea
    obtain ⟨a, vs, rfl, h1, r1⟩ := t1.list
    rw [hK] at h1
    exact sl_list pins s σ H _ v vl vu lo hi sl Q I rx hs pl pu ⟨a, vs, rfl, h1, newL ht R q r1.cut⟩
  · cases ea
    have p1 := t1.rpT
    obtain ⟨a, vs, rfl, h1, r1⟩ := t1.tuple
    rw [hK] at h1
    refine sl_tupA pins s σ H _ v vl vu lo hi sl Q I rx hs pl pu ⟨a, vs, rfl, h1, fun w => ?_, fun _ => newT ht R q r1.cut⟩
    rename_i xs
    have e : cutL xs lo hi = xs := by
      unfold cutL
      rw [← r1.length, w.1, w.2, List.drop_zero, Nat.sub_zero, r1.length, List.take_length]
    rw [e] at q
    exact stays R q p1
  · obtain ⟨c, rfl⟩ := ite_some ea
    rename_i z
    exact sl_str pins s σ H _ v vl vu lo hi sl Q I rx hs pl pu ⟨z, t1.str, small_sz c, stays R q (.str _)⟩
  · cases ea

/-! ### built-in functions -/
theorem Top.seq {K : PySem.W.Frag} {H : Hp} {O : Addr → Prop} {v : V} {d : D} {ds : List D} (h : Top K H O v d) (e : d = .list ds ∨ d = .tuple ds) : ∃ a xs, v = .ref a ∧ (SqL K H a xs ∨ SqT K H a xs) ∧ RpAll K (cut H O) xs ds := by
  rcases e with rfl | rfl
  · obtain ⟨a, xs, e, h1, r⟩ := h.list
    exact ⟨a, xs, e, .inl h1, r⟩
  · obtain ⟨a, xs, e, h1, r⟩ := h.tuple
    exact ⟨a, xs, e, .inr h1, r⟩
theorem tops1' {K : PySem.W.Frag} {H : Hp} {O : Addr → Prop} {vs : List V} {d : D} (h : Tops K H O vs [d]) : ∃ v, vs = [v] ∧ Top K H O v d := by
  cases h with
  | cons a b => cases b; exact ⟨_, rfl, a⟩
theorem tops2' {K : PySem.W.Frag} {H : Hp} {O : Addr → Prop} {vs : List V} {d e : D} (h : Tops K H O vs [d, e]) : ∃ v u, vs = [v, u] ∧ Top K H O v d ∧ Top K H O u e := by
  cases h with
  | cons a b => cases b with
    | cons b c => cases c; exact ⟨_, _, rfl, a, b⟩
theorem cb_len (hK : Y.K = X.K) : CallR X (.builtin "len") (rD Y (.bi "len")) := by
  intro pins s σ H xs us Q I r z
  obtain ⟨ρ, σ', ds, r', R, T, ea, q⟩ := z
  replace ea : biD "len" ds = some r' := ea
  unfold biD at ea
  rw [if_pos rfl] at ea
  split at ea
  · cases ea
    obtain ⟨v, rfl, t⟩ := tops1' T
    obtain ⟨a, vs, rfl, h1, r1⟩ := t.list
    rw [hK] at h1
    exact call_len_seq pins s σ H _ us Q I r ⟨a, vs, rfl, .inl h1, by rw [r1.length]; exact stays R q (.int _)⟩
  · cases ea
    obtain ⟨v, rfl, t⟩ := tops1' T
    obtain ⟨a, vs, rfl, h1, r1⟩ := t.tuple
    rw [hK] at h1
    exact call_len_seq pins s σ H _ us Q I r ⟨a, vs, rfl, .inr h1, by rw [r1.length]; exact stays R q (.int _)⟩
  · obtain ⟨c, rfl⟩ := ite_some ea
    obtain ⟨v, rfl, t⟩ := tops1' T
    rw [t.str] at r
    rw [t.str] at *
    exact call_len_str pins s σ H _ us Q I r ⟨_, rfl, small_sz c, stays R q (.int _)⟩
  · cases ea
theorem cb_int : CallR X (.type "int") (rD Y (.bi "int")) := by
  intro pins s σ H xs us Q I r z
  obtain ⟨ρ, σ', ds, r', R, T, ea, q⟩ := z
  replace ea : biD "int" ds = some r' := ea
  unfold biD at ea
  rw [if_neg (by decide), if_pos rfl] at ea
  split at ea
  · cases ea
    obtain ⟨v, rfl, t⟩ := tops1' T
    exact call_int1 pins s σ H _ us Q I r (.inl ⟨_, by rw [t.int], stays R q (.int _)⟩)
  · obtain ⟨c, ea⟩ := ite_opt ea
    obtain ⟨n, h1, rfl⟩ := Option.map_eq_some_iff.mp ea
    obtain ⟨v, rfl, t⟩ := tops1' T
    exact call_int_str pins s σ H _ us Q I r ⟨_, n, by rw [t.str], h1, c, stays R q (.int _)⟩
  · cases ea
theorem cb_tuple (hK : Y.K = X.K) (ht : TbOk Y.tb) : CallR X (.type "tuple") (rD Y (.bi "tuple")) := by
  intro pins s σ H xs us Q I r z
  obtain ⟨ρ, σ', ds, r', R, T, ea, q⟩ := z
  replace ea : biD "tuple" ds = some r' := ea
  unfold biD at ea
  rw [if_neg (by decide), if_neg (by decide), if_pos rfl] at ea
  split at ea
  · cases ea
    obtain ⟨v, rfl, t⟩ := tops1' T
    obtain ⟨a, vs, rfl, h1, r1⟩ := t.list
    rw [hK] at h1
    exact call_tuple_of pins s σ H _ us Q I r ⟨a, vs, rfl, .inl ⟨h1, newT ht R q r1⟩⟩
  · cases ea
    obtain ⟨v, rfl, t⟩ := tops1' T
    have p1 := t.rpT
    obtain ⟨a, vs, rfl, h1, r1⟩ := t.tuple
    rw [hK] at h1
    exact call_tuple_of pins s σ H _ us Q I r ⟨a, vs, rfl, .inr ⟨h1, stays R q p1⟩⟩
  · cases ea
theorem cb_list (hK : Y.K = X.K) (ht : TbOk Y.tb) : CallR X (.type "list") (rD Y (.bi "list")) := by
  intro pins s σ H xs us Q I r z
  obtain ⟨ρ, σ', ds, r', R, T, ea, q⟩ := z
  replace ea : biD "list" ds = some r' := ea
  unfold biD at ea
  rw [if_neg (by decide), if_neg (by decide), if_neg (by decide), if_pos rfl] at ea
  split at ea
  · cases ea
    obtain ⟨v, rfl, t⟩ := tops1' T
    obtain ⟨a, vs, rfl, h1, r1⟩ := t.list
    rw [hK] at h1
    exact call_list_of pins s σ H _ us Q I r ⟨a, vs, rfl, .inl h1, newL ht R q r1⟩
  · cases ea
    obtain ⟨v, rfl, t⟩ := tops1' T
    obtain ⟨a, vs, rfl, h1, r1⟩ := t.tuple
    rw [hK] at h1
    exact call_list_of pins s σ H _ us Q I r ⟨a, vs, rfl, .inr h1, newL ht R q r1⟩
  · cases ea
end
end Ty
set_option autoImplicit false
set_option maxHeartbeats 200000
/-! T3c: sorted, sum, min, max, repr, str, isinstance. -/
namespace Ty
open PySem.Spec PyProof.Rows L2 PySem

/-! ### insertion sort is mergeSort -/
def leD (x y : D) : Bool := !ltD y x
theorem leD_eq : leD = PySem.W.dataLe (β := D) false (fun d => d) := by
  funext x y
  rw [PySem.W.dataLe_eq]
  show (!ltD y x) = !PySem.W.dataLt y x
  rw [ltD_eq]
theorem leD_total : PySem.W.TotalLe leD := by
  rw [leD_eq]
  exact PySem.W.sortLe_total _ _ _
theorem insD_split (x : D) : ∀ (l1 l2 : List D), (∀ b ∈ l1, leD x b = false) → (∀ b ∈ l2, leD x b = true) → insD x (l1 ++ l2) = l1 ++ x :: l2
  | [], [], _, _ => rfl
  | [], y :: l2, _, h => by
    have e := h y (.head _)
    unfold leD at e
    show (if ltD y x = true then _ else _) = _
    rw [if_neg (by simpa using e)]
    rfl
  | y :: l1, l2, h, h' => by
    have e := h y (.head _)
    unfold leD at e
    show (if ltD y x = true then y :: insD x (l1 ++ l2) else _) = _
    rw [if_pos (by simpa using e), insD_split x l1 l2 (fun b hb => h b (.tail _ hb)) h']
    rfl
theorem sortD_eq : ∀ ds : List D, sortD ds = ds.mergeSort leD
  | [] => by simp [sortD]
  | x :: xs => by
    have T : ∀ a b c, leD a b = true → leD b c = true → leD a c = true := leD_total.trans
    have Z : ∀ a b, (leD a b || leD b a) = true := fun a b => Bool.or_eq_true_iff.mpr (leD_total.total a b)
    obtain ⟨l1, l2, h1, h2, h3⟩ := List.mergeSort_cons (le := leD) T Z x xs
    have P := List.pairwise_mergeSort (le := leD) T Z (x :: xs)
    rw [h1] at P
    show insD x (sortD xs) = _
    rw [sortD_eq xs, h2, h1]
    refine insD_split x l1 l2 (fun b hb => by simpa using h3 b hb) fun b hb => ?_
    exact (List.pairwise_cons.mp (List.pairwise_append.mp P).2.1).1 b hb
theorem sortD_map {α : Type} (k : α → D) (l : List α) : (l.mergeSort (PySem.W.dataLe false k)).map k = sortD (l.map k) := by
  rw [sortD_eq]
  refine List.map_mergeSort fun a _ b _ => ?_
  rw [leD_eq]
  rfl

section
variable {Y : Yc} {X : Cx}
theorem rpAll_zip {K : PySem.W.Frag} {H : Hp} : ∀ {xs : List V} {ds : List D}, RpAll K H xs ds → (xs.zip ds).map Prod.snd = ds ∧ ∀ p ∈ xs.zip ds, Rp K H p.1 p.2
  | _, _, .nil => ⟨rfl, fun _ h => by cases h⟩
  | _, _, .cons a b => ⟨by rw [List.zip_cons_cons, List.map_cons, (rpAll_zip b).1], fun p h => by
      rcases (List.mem_cons.mp h) with rfl | h
      · exact a
      · exact (rpAll_zip b).2 p h⟩
theorem rpAll_pairs {K : PySem.W.Frag} {H : Hp} : ∀ {l : List (V × D)}, (∀ p ∈ l, Rp K H p.1 p.2) → RpAll K H (l.map Prod.fst) (l.map Prod.snd)
  | [], _ => .nil
  | p :: l, h => .cons (h p (.head _)) (rpAll_pairs fun q hq => h q (.tail _ hq))
theorem vals_each : ∀ {us : List Value} {l : List (V × D)}, PySem.W.EachIs (fun u p => RelV p.1 u) us l → Vals (l.map Prod.fst) us
  | _, _, .nil => .nil
  | _, _, .cons a b => .cons a (vals_each b)
theorem each_zip {K : PySem.W.Frag} {H : Hp} {R : Value → V × D → Prop} (hR : ∀ u v d, RelV v u → Rp K H v d → R u (v, d)) : ∀ {xs : List V} {ds : List D} {us : List Value}, RpAll K H xs ds → Vals xs us → PySem.W.EachIs R us (xs.zip ds)
  | _, _, _, .nil, .nil => .nil
  | _, _, _, .cons a b, .cons c d => .cons (hR _ _ _ c a) (each_zip hR b d)
theorem cmp_of {ds : List D} (h : allCmp ds = true) : PySem.W.AllAlike ds ∧ (∀ d ∈ ds, fine d = true) ∧ ((∀ d, d ∈ ds → d ≠ .none ∧ ∀ xs, d ≠ .tuple xs) ∨ ∀ d ∈ ds, ∃ xs, d = .tuple xs) := by
  unfold allCmp at h
  simp only [Bool.or_eq_true, Bool.and_eq_true, List.all_eq_true] at h
  rcases h with h | ⟨hf, h | ⟨h, h'⟩⟩
  · refine ⟨fun d hd e he => ?_, fun d hd => ?_, .inl fun d hd => ?_⟩
    · have h1 := h d hd
      have h2 := h e he
      cases d <;> simp [isInt] at h1
      cases e <;> simp [isInt] at h2
      simp [PySem.W.alike]
    · have h1 := h d hd
      cases d <;> simp [isInt] at h1
      simp [fine, PyData.canLay0, PyData.depth]
    · have h1 := h d hd
      cases d <;> simp [isInt] at h1
      simp
  · refine ⟨fun d hd e he => ?_, hf, .inl fun d hd => ?_⟩
    · have h1 := h d hd
      have h2 := h e he
      cases d <;> simp [isStr] at h1
      cases e <;> simp [isStr] at h2
      simp [PySem.W.alike]
    · have h1 := h d hd
      cases d <;> simp [isStr] at h1
      simp
  · refine ⟨fun d hd e he => h' d hd e he, hf, .inr fun d hd => ?_⟩
    have h1 := h d hd
    cases d <;> simp [isTup] at h1
    exact ⟨_, rfl⟩
theorem sort_at {prog : Program} {w : World} {A : Around} {s : Shared} {vs : List Value} {ds : List D} (e : PySem.W.EachIs (fun v d => ∃ as, Reads s.heap v d as) vs ds) (h : allCmp ds = true) (hu : A.units + 62 < cLine) :
    PySem.W.SortsAt prog w A s (PySem.W.dataKind s.heap ds) vs := by
  obtain ⟨al, hf, hk⟩ := cmp_of h
  have dep : ∀ d, d ∈ ds → A.units + d.depth < cLine := fun d hd => by
    have := (fine_of (hf d hd)).2.2
    omega
  rcases hk with hk | hk
  · exact PySem.W.SortsAt.data e al (.inr hk) dep
  · by_cases h0 : PyData.tuple [] ∈ ds
    · exact sorts_some_empty e al hk h0 dep
    · refine PySem.W.SortsAt.data e al (.inl fun d hd => ?_) dep
      obtain ⟨xs, rfl⟩ := hk d hd
      cases xs with
      | nil => exact absurd hd h0
      | cons x r => exact (⟨x, r, rfl⟩)
theorem cb_sorted (hK : Y.K = X.K) (ht : TbOk Y.tb) (hu : X.A.units + 70 < cLine) : CallR X (.builtin "sorted") (rD Y (.bi "sorted")) := by
  intro pins s σ H xs us Q I r z
  obtain ⟨ρ, σ', ds, r', R, T, ea, q⟩ := z
  replace ea : biD "sorted" ds = some r' := ea
  unfold biD at ea
  rw [if_neg (by decide), if_neg (by decide), if_neg (by decide), if_neg (by decide), if_pos rfl] at ea
  split at ea
  · rename_i es
    obtain ⟨c, rfl⟩ := ite_some ea
    simp only [Bool.and_eq_true, decide_eq_true_eq] at c
    obtain ⟨v, rfl, t⟩ := tops1' T
    obtain ⟨a, vs, rfl, h1, r1⟩ := t.list
    obtain ⟨al, hf, _⟩ := cmp_of c.1
    obtain ⟨its, rv, hl, _⟩ := I.list (hK ▸ h1)
    rw [Vals.ref1 r]
    have z1 := rpAll_zip r1
    have lay : ∀ p ∈ vs.zip es, fine p.2 = true := fun p hp => hf _ (by rw [← z1.1]; exact List.mem_map.mpr ⟨p, hp, rfl⟩)
    have E1 : PySem.W.EachIs (fun u p => RelV p.1 u) its (vs.zip es) := each_zip (fun u v d a _ => a) r1 rv
    have E2 : PySem.W.EachIs (fun (u : Value) (p : V × D) => RelV p.1 u ∧ Rp Y.K (cut H (Ex_ Y ρ σ')) p.1 p.2) its (vs.zip es) := each_zip (fun u v d a b => ⟨a, b⟩) r1 rv
    have E3 : PySem.W.EachIs (fun (u : Value) (p : V × D) => ∃ as, Reads (PySem.W.sortingHeap (PySem.W.copyHeap s.heap its) (s.heap.objs.size + 1) its) u p.2 as) its (vs.zip es) := (PySem.W.each_mem E2).mono fun u p hp => by
      have l1 := (fine_of (lay p hp.2)).2.1
      have d1 := (hp.1.2.mono cut_keep).dp l1
      rw [hK] at d1
      obtain ⟨as, q1⟩ := Dp.reads I p.2 p.1 u d1 hp.1.1
      exact ⟨as, PyProof.Rows.Reads.keeps (fun _ _ => PySem.W.sorting_copy_old) q1⟩
    have e3 : (vs.zip es).map Prod.snd = es := z1.1
    have S : PySem.W.SortsAt X.prog X.w X.A.in1.in1 { s with heap := PySem.W.sortingHeap (PySem.W.copyHeap s.heap its) (s.heap.objs.size + 1) its } (PySem.W.dataKind (PySem.W.sortingHeap (PySem.W.copyHeap s.heap its) (s.heap.objs.size + 1) its) ((vs.zip es).map Prod.snd)) its := by
      refine sort_at (s := { s with heap := PySem.W.sortingHeap (PySem.W.copyHeap s.heap its) (s.heap.objs.size + 1) its }) (PySem.W.each_map (R := fun v d => ∃ as, Reads (PySem.W.sortingHeap (PySem.W.copyHeap s.heap its) (s.heap.objs.size + 1) its) v d as) Prod.snd E3) (by rw [e3]; exact c.1) ?_
      show X.A.units + 1 + 1 + 62 < cLine
      omega
    have hlen : its.length ≤ sizeLine := by rw [← rv.length, r1.length]; exact small_sz c.2
    refine PySem.W.sorted_vals hl.isList S hlen ?_
    have E4 := PySem.W.sortVals_data (enc := Prod.snd) false E1 E3 (by rw [e3]; exact al)
    obtain ⟨ep, he'⟩ := PyProof.Rows.sortedAll_at s.heap its (PySem.W.sortVals (PySem.W.dataKind (PySem.W.sortingHeap (PySem.W.copyHeap s.heap its) (s.heap.objs.size + 1) its) ((vs.zip es).map Prod.snd)) false its its).toArray
    have rr : RpAll Y.K (Ty.cut H (Ex_ Y ρ σ')) (((vs.zip es).mergeSort (PySem.W.dataLe false Prod.snd)).map Prod.fst) (sortD es) := by
      have w := rpAll_pairs (K := Y.K) (H := Ty.cut H (Ex_ Y ρ σ')) (l := (vs.zip es).mergeSort (PySem.W.dataLe false Prod.snd)) fun p hp => z1.2 p (List.mem_mergeSort.mp hp)
      rw [sortD_map, e3] at w
      exact w
    refine ⟨.ref _, upd H (s.heap.objs.size + 1) (.lst (((vs.zip es).mergeSort (PySem.W.dataLe false Prod.snd)).map Prod.fst)), I.laid (t' := s.toks) (fun _ _ => PyProof.Rows.sortedAll_old) (Nat.le_succ _) ⟨?_, _, ep, vals_each E4, he'⟩, rfl, newL ht R q rr _ (I.hok.fresh (Nat.le_succ _))⟩
    rw [List.length_map, List.length_mergeSort, List.length_zip, r1.length, Nat.min_self]
    exact small_sz c.2
  · cases ea
end
end Ty
set_option autoImplicit false
set_option maxHeartbeats 200000
/-! T4: the rules for expressions, by the evaluator's own forms. -/
namespace Ty
open PySem.Spec PyProof.Rows L2 PySem

structure Zc where
  K : PySem.W.Frag
  tb : Hp → Prop
def Of (Z : Zc) (Y : Yc) : Prop := Y.K = Z.K ∧ Y.tb = Z.tb
theorem Of.plus {Z : Zc} {Y : Yc} {p : Addr} (h : Of Z Y) : Of Z (Y.plus p) := h
/-- what the rules ask of the def's context -/
structure Cd (X : Cx) (Z : Zc) : Prop where
  hK : Z.K = X.K
  ht : TbOk Z.tb
  calm : X.calm = true
  units : X.A.units + 70 < cLine
  guards : X.A.guards = some []
  nd : X.N.Nodup
section
variable {X : Cx} {Z : Zc} {Y : Yc}
theorem Cd.k (c : Cd X Z) (o : Of Z Y) : Y.K = X.K := o.1.trans c.hK
theorem Cd.t (c : Cd X Z) (o : Of Z Y) : TbOk Y.tb := o.2 ▸ c.ht
end
def eM (X : Cx) (Z : Zc) (e : Expr) (m : M R) : Prop := ∀ Y, Of Z Y → PE X e (tM Y m)
def eO (X : Cx) (Z : Zc) (e : Expr) (m : M B) : Prop := ∀ Y, Of Z Y → PE X e (tO Y m)
def eOs (X : Cx) (Z : Zc) (e : List Expr) (m : M (List B)) : Prop := ∀ Y, Of Z Y → PA X e (tOs Y m)
def eMs (X : Cx) (Z : Zc) (e : List Expr) (m : M (List D)) : Prop := ∀ Y, Of Z Y → PA X e (tMs Y m)
def eT (X : Cx) (Z : Zc) (e : Expr) (m : M Bool) : Prop := ∀ Y, Of Z Y → PT X e (tT Y m)
def eTs (X : Cx) (Z : Zc) (e : List Expr) (m : M Bool) : Prop := ∀ Y, Of Z Y → PTs X e (tT Y m)

section
variable {X : Cx} {Z : Zc} {Φ : Fns} {P : Pars} {e e1 e2 e3 : Expr} {es : List Expr} {pos p p2 : Pos} {t t1 t2 t3 : Ex} {ts : Exs}

/-! ### names, constants -/
theorem m_var {i : Nat} {x : Str} (hN : X.N[i]? = some x := by rfl) (hv : Vis X.env.scope x := by first | exact Or.inl rfl | exact Or.inr (Or.inl rfl) | exact Or.inr (Or.inr rfl)) (hd : (x == ("__debug__" : Str)) = false := by decide)
    (hcd : (x == ("__classdict__" : Str)) = false := by decide) : eM X Z (.Name x pos) (ev Φ P (.var i)) := fun Y _ => pe_imp (pv i hN hv hd hcd) fun _ _ _ h => im_var (by rw [ev] at h; exact h)
theorem o_var {i : Nat} {x : Str} (hN : X.N[i]? = some x := by rfl) (hv : Vis X.env.scope x := by first | exact Or.inl rfl | exact Or.inr (Or.inl rfl) | exact Or.inr (Or.inr rfl)) (hd : (x == ("__debug__" : Str)) = false := by decide)
    (hcd : (x == ("__classdict__" : Str)) = false := by decide) : eO X Z (.Name x pos) (evO Φ P (.var i)) := fun Y _ => pe_imp (pv i hN hv hd hcd) fun _ _ _ h => im_opd (by rw [evO] at h; exact h)
theorem m_int {i : Int} {j : Nat} : eM X Z (.Constant (.int i) j pos) (ev Φ P (.con (.int i))) := fun Y _ => pe_imp pe_int fun _ _ _ h => im_con (fun _ _ => .int i) (by rw [ev] at h; exact h)
theorem o_int {i : Int} {j : Nat} : eO X Z (.Constant (.int i) j pos) (evO Φ P (.con (.int i))) := fun Y _ => pe_imp pe_int fun _ _ _ h => im_conO (fun _ _ => .int i) (by rw [evO] at h; exact h)
theorem m_str {x : Str} {j : Nat} : eM X Z (.Constant (.str x) j pos) (ev Φ P (.con (.str x))) := fun Y _ => pe_imp pe_str fun _ _ _ h => im_con (fun _ _ => .str x) (by rw [ev] at h; exact h)
theorem o_str {x : Str} {j : Nat} : eO X Z (.Constant (.str x) j pos) (evO Φ P (.con (.str x))) := fun Y _ => pe_imp pe_str fun _ _ _ h => im_conO (fun _ _ => .str x) (by rw [evO] at h; exact h)
theorem m_bl {b : Bool} {j : Nat} : eM X Z (.Constant (.bool b) j pos) (ev Φ P (.con (.bool b))) := fun Y _ => pe_imp pe_bl fun _ _ _ h => im_con (fun _ _ => .bl b) (by rw [ev] at h; exact h)
theorem o_bl {b : Bool} {j : Nat} : eO X Z (.Constant (.bool b) j pos) (evO Φ P (.con (.bool b))) := fun Y _ => pe_imp pe_bl fun _ _ _ h => im_conO (fun _ _ => .bl b) (by rw [evO] at h; exact h)
theorem m_non {j : Nat} : eM X Z (.Constant .none j pos) (ev Φ P (.con .none)) := fun Y _ => pe_imp pe_non fun _ _ _ h => im_con (fun _ _ => .non) (by rw [ev] at h; exact h)
theorem o_non {j : Nat} : eO X Z (.Constant .none j pos) (evO Φ P (.con .none)) := fun Y _ => pe_imp pe_non fun _ _ _ h => im_conO (fun _ _ => .non) (by rw [evO] at h; exact h)
/-- a value that is written in the module (no object of the def's own) -/
def Wr (X : Cx) (Z : Zc) (x : Str) (d : D) : Prop := ∃ v u, X.mg x = some u ∧ RelV v u ∧ Rp Z.K (fun _ => none) v d
theorem Wr.rp {x : Str} {d : D} (h : Wr X Z x d) : ∃ v u, X.mg x = some u ∧ RelV v u ∧ ∀ H, Rp Z.K H v d := by
  obtain ⟨v, u, a, b, c⟩ := h
  exact ⟨v, u, a, b, fun H => c.mono fun _ _ e _ => by cases e⟩
theorem m_glb {x : Str} {d : D} (h : Wr X Z x d) (hg : Gl X x := by rfl) (hd : (x == ("__debug__" : Str)) = false := by decide) : eM X Z (.Name x pos) (ev Φ P (.glb x d)) := by
  intro Y o
  obtain ⟨v, u, a, b, c⟩ := h.rp
  refine pe_imp (pe_glob hg a b hd) fun σ H Q q => ?_
  rw [ev] at q
  obtain ⟨ρ, r, ρ', R, e, q⟩ := tM_of q
  cases e
  exact q v H (.refl R) (show Rp Y.K _ v d from o.1 ▸ c _)
theorem o_of {m : M R} (h : eM X Z e m) : eO X Z e (bnd m fun r => ret (.val r.1)) := fun Y o => pe_imp (h Y o) fun _ _ _ => im_val
theorem o_glb {x : Str} {d : D} (h : Wr X Z x d) (hg : Gl X x := by rfl) (hd : (x == ("__debug__" : Str)) = false := by decide) : eO X Z (.Name x pos) (evO Φ P (.glb x d)) := by
  intro Y o
  obtain ⟨v, u, a, b, c⟩ := h.rp
  refine pe_imp (pe_glob hg a b hd) fun σ H Q q => ?_
  rw [evO] at q
  obtain ⟨ρ, r, ρ', R, e, q⟩ := tO_of q
  cases e
  exact q v H (.refl R) (show Rp Y.K _ v d from o.1 ▸ c _)

/-! ### operations -/
theorem tOp_of {Y : Yc} {p : Prim} {ma mb : M B} {σ : L2.St} {H : Hp} {Q : VK} (h : tM Y (bnd (bnd ma fun x => bnd (bnd mb fun y => bnd (ret []) fun bs => ret (y :: bs)) fun bs => ret (x :: bs)) (prim p)) σ H Q) :
    tOp (fun x y => rD Y p [x, y]) (tO Y ma) (tO Y mb) σ H Q := by
  obtain ⟨ρ, r, ρ', R, e, q⟩ := tM_of h
  obtain ⟨bs, ρ1, e1, e2⟩ := bnd_ok e
  obtain ⟨x, ρ2, e3, e4⟩ := bnd_ok e1
  obtain ⟨ys, ρ3, e5, e6⟩ := bnd_ok e4
  obtain ⟨y, ρ4, e7, e8⟩ := bnd_ok e5
  cases e6
  cases e8
  refine tO_mk R e3 fun v H1 P1 r1 => tO_mk P1.rep e7 fun u H2 P2 r2 => ?_
  have PP := P1.trans P2
  exact rD_of PP.rep (.cons (P2.resB r1) (.cons r2 .nil)) e2 fun v H' P3 r3 => q v H' (PP.trans P3) (r3.back PP.none)
theorem m_op {op : Operator} {p : Prim} (ho : ∀ Y, Of Z Y → OpR X (binaryOp op) (fun x y => rD Y p [x, y])) (h1 : eO X Z e1 (evO Φ P t1)) (h2 : eO X Z e2 (evO Φ P t2)) :
    eM X Z (.BinOp e1 op e2 pos) (ev Φ P (.prim p (.cons t1 (.cons t2 .nil)))) := fun Y o => pe_imp (pe_op (ho Y o) (h1 Y o) (h2 Y o)) fun _ _ _ h => tOp_of (by rw [ev, evOs, evOs, evOs] at h; exact h)
theorem m_cmp {op : CmpOp} {p : Prim} (ho : ∀ Y, Of Z Y → OpR X (compareOp op) (fun x y => rD Y p [x, y])) (h1 : eO X Z e1 (evO Φ P t1)) (h2 : eO X Z e2 (evO Φ P t2)) (hm : behindInMarks op e2 = false := by first | exact nomark _ | rfl | with_unfolding_all rfl) :
    eM X Z (.Compare e1 [op] [e2] pos) (ev Φ P (.prim p (.cons t1 (.cons t2 .nil)))) := fun Y o => pe_imp (pe_cmpR (ho Y o) (h1 Y o) (h2 Y o) hm) fun _ _ _ h => tOp_of (by rw [ev, evOs, evOs, evOs] at h; exact h)
theorem m_ix (c : Cd X Z) (h1 : eO X Z e1 (evO Φ P t1)) (h2 : eO X Z e2 (evO Φ P t2)) (hs : PlainIx e2 := by exact fun _ _ => rfl) :
    eM X Z (.Subscript e1 e2 pos) (ev Φ P (.prim .idx (.cons t1 (.cons t2 .nil)))) := fun Y o => pe_imp (pe_ix (dr_idx (c.k o) c.units) (h1 Y o) (h2 Y o) hs) fun _ _ _ h => tOp_of (by rw [ev, evOs, evOs, evOs] at h; exact h)
theorem tUn_of {Y : Yc} {p : Prim} {ma : M B} {σ : L2.St} {H : Hp} {Q : VK} (h : tM Y (bnd (bnd ma fun x => bnd (ret []) fun bs => ret (x :: bs)) (prim p)) σ H Q) : tUn (fun x => rD Y p [x]) (tO Y ma) σ H Q := by
  obtain ⟨ρ, r, ρ', R, e, q⟩ := tM_of h
  obtain ⟨bs, ρ1, e1, e2⟩ := bnd_ok e
  obtain ⟨x, ρ2, e3, e4⟩ := bnd_ok e1
  cases e4
  refine tO_mk R e3 fun v H1 P1 r1 => ?_
  exact rD_of P1.rep (.cons r1 .nil) e2 fun v H' P3 r3 => q v H' (P1.trans P3) (r3.back P1.none)
theorem m_un {op : UnaryOp} {p : Prim} (ho : ∀ Y, Of Z Y → UnR X (unaryOp op) (fun x => rD Y p [x])) (h1 : eO X Z e1 (evO Φ P t1)) :
    eM X Z (.UnaryOp op e1 pos) (ev Φ P (.prim p (.cons t1 .nil))) := fun Y o => pe_imp (pe_un (ho Y o) (h1 Y o)) fun _ _ _ h => tUn_of (by rw [ev, evOs, evOs] at h; exact h)
theorem o_prim {p : Prim} (h : eM X Z e (ev Φ P (.prim p ts))) : eO X Z e (evO Φ P (.prim p ts)) := fun Y o => pe_imp (h Y o) fun _ _ _ q => im_val (by rw [evO] at q; rw [ev]; exact q)
end
end Ty
set_option autoImplicit false
set_option maxHeartbeats 200000
/-! T4b: tests, displays, calls of built-in functions. -/
namespace Ty
open PySem.Spec PyProof.Rows L2 PySem
theorem rp_bool {K : PySem.W.Frag} {H : Hp} {v : V} {b : Bool} (h : Rp K H v (.bool b)) : v = .bl b := by
  cases h; rfl
theorem resV_bool {Y : Yc} {ρ : Env} {σ : L2.St} {H H' : Hp} {r : Ty.R} {v : V} {b : Bool} (h : ResV Y ρ σ H H' r v) (e : r.1 = .bool b) : v = .bl b := by
  have z := h.rp
  rw [e] at z
  exact rp_bool z
/-- a test: the value's own truth -/
def tst (Φ : Fns) (P : Pars) (t : Ex) : M Bool := bnd (ev Φ P t) asBool
def eW (X : Cx) (Z : Zc) (e : Expr) (m : M Bool) : Prop := ∀ Y, Of Z Y → PW X e (tT Y m)
theorem pw_imp {X : Cx} {e : Expr} {t t' : TT} (h : PW X e t) (i : ∀ σ H Q, t' σ H Q → t σ H Q) : PW X e t' := ⟨fun wh pins s σ H Q I q => h.run wh pins s σ H Q I (i σ H Q q)⟩
theorem eW.eT {X : Cx} {Z : Zc} {e : Expr} {m : M Bool} (h : eW X Z e m) : eT X Z e m := fun Y o => (h Y o).pt
section
variable {X : Cx} {Z : Zc} {Y : Yc} {Φ : Fns} {P : Pars} {e e1 e2 e3 : Expr} {es rest : List Expr} {pos p p2 : Pos} {t t1 t2 t3 : Ex} {ts : Exs} {σ : L2.St} {H : Hp}
/-- a bool that comes, and what follows -/
theorem tM_bool {m : M R} {f : Bool → M R} {Q : VK} (h : tM Y (bnd m fun r => bnd (asBool r) f) σ H Q) : tM Y m σ H fun x H1 => ∃ c, x = .bl c ∧ tM Y (f c) σ H1 fun v H2 => Q v H2 := by
  obtain ⟨ρ, r, ρ', R, e, q⟩ := tM_of h
  obtain ⟨r1, ρ1, e1, e2⟩ := bnd_ok e
  obtain ⟨c, ρ2, e3, e4⟩ := bnd_ok e2
  obtain ⟨hb, rfl⟩ := asBool_ok e3
  refine tM_mk R e1 fun v H1 P1 r1 => ⟨c, resV_bool r1 hb, tM_mk P1.rep e4 fun u H2 P2 r2 => q u H2 (P1.trans P2) (r2.back P1.none)⟩
theorem tT_bool {m : M R} {f : Bool → M Bool} {Q : Bool → Hp → Prop} (h : tT Y (bnd m fun r => bnd (asBool r) f) σ H Q) : tM Y m σ H fun x H1 => ∃ c, x = .bl c ∧ tT Y (f c) σ H1 Q := by
  obtain ⟨ρ, r, ρ', R, e, q⟩ := tT_of h
  obtain ⟨r1, ρ1, e1, e2⟩ := bnd_ok e
  obtain ⟨c, ρ2, e3, e4⟩ := bnd_ok e2
  obtain ⟨hb, rfl⟩ := asBool_ok e3
  exact tM_mk R e1 fun v H1 P1 r1 => ⟨c, resV_bool r1 hb, tT_mk P1.rep e4 fun H2 P2 => q H2 (P1.trans P2)⟩
theorem tT_bnd {m : M Bool} {f : Bool → M Bool} {Q : Bool → Hp → Prop} (h : tT Y (bnd m f) σ H Q) : tT Y m σ H fun c H1 => tT Y (f c) σ H1 Q := by
  obtain ⟨ρ, r, ρ', R, e, q⟩ := tT_of h
  obtain ⟨c, ρ1, e1, e2⟩ := bnd_ok e
  exact tT_mk R e1 fun H1 P1 => tT_mk P1.rep e2 fun H2 P2 => q H2 (P1.trans P2)
theorem tMT_bnd {m : M Bool} {f : Bool → M R} {Q : VK} (h : tM Y (bnd m f) σ H Q) : tT Y m σ H fun c H1 => tM Y (f c) σ H1 Q := by
  obtain ⟨ρ, r, ρ', R, e, q⟩ := tM_of h
  obtain ⟨c, ρ1, e1, e2⟩ := bnd_ok e
  exact tT_mk R e1 fun H1 P1 => tM_mk P1.rep e2 fun v H2 P2 r2 => q v H2 (P1.trans P2) (r2.back P1.none)
theorem tT_ret {b : Bool} {Q : Bool → Hp → Prop} (h : tT Y (ret b) σ H Q) : Q b H := by
  obtain ⟨ρ, r, ρ', R, e, q⟩ := tT_of h
  cases e
  exact q H (.refl R)
theorem tM_retB {b : Bool} {Q : VK} (h : tM Y (ret (.bool b, false)) σ H Q) : Q (.bl b) H := by
  obtain ⟨ρ, r, ρ', R, e, q⟩ := tM_of h
  cases e
  exact q _ H (.refl R) (show Rp _ _ _ _ from .bl b)
theorem bnd_assoc {α β γ : Type} (m : M α) (f : α → M β) (g : β → M γ) : bnd (bnd m f) g = bnd m fun a => bnd (f a) g := by
  funext ρ
  unfold bnd
  cases m ρ <;> rfl
theorem bnd_ret {α β : Type} (a : α) (f : α → M β) : bnd (ret a) f = f a := rfl
theorem bnd_ite {α β : Type} (c : Bool) (x y : M α) (f : α → M β) : bnd (if c = true then x else y) f = if c = true then bnd x f else bnd y f := by
  cases c <;> rfl
/-- the value, when it is a bool -/
def boolV (r : Ty.R) : M Ty.R := bnd (asBool r) fun k => ret (.bool k, false)
theorem ev_and : ev Φ P (.and t1 t2) = bnd (tst Φ P t1) fun k => if k then bnd (ev Φ P t2) boolV else ret (.bool false, false) := by
  rw [ev, tst, bnd_assoc]; rfl
theorem ev_or : ev Φ P (.or t1 t2) = bnd (tst Φ P t1) fun k => if k then ret (.bool true, false) else bnd (ev Φ P t2) boolV := by
  rw [ev, tst, bnd_assoc]; rfl
theorem asBool_bool (k : Bool) : asBool (.bool k, false) = ret k := rfl
theorem boolV_as (r : Ty.R) : bnd (boolV r) asBool = asBool r := by
  funext ρ
  obtain ⟨d, n⟩ := r
  cases d <;> rfl
theorem tst_and : tst Φ P (.and t1 t2) = bnd (tst Φ P t1) fun k => if k then tst Φ P t2 else ret false := by
  rw [tst, ev_and, bnd_assoc]
  congr 1
  funext k
  rw [bnd_ite]
  cases k
  · rfl
  · show bnd (bnd (ev Φ P t2) boolV) asBool = _
    rw [bnd_assoc]
    simp only [boolV_as]
    rfl
theorem tst_or : tst Φ P (.or t1 t2) = bnd (tst Φ P t1) fun k => if k then ret true else tst Φ P t2 := by
  rw [tst, ev_or, bnd_assoc]
  congr 1
  funext k
  rw [bnd_ite]
  cases k
  · show bnd (bnd (ev Φ P t2) boolV) asBool = _
    rw [bnd_assoc]
    simp only [boolV_as]
    rfl
  · rfl
theorem tst_not : tst Φ P (.not t1) = bnd (tst Φ P t1) fun k => ret (!k) := by
  rw [tst, ev, tst, bnd_assoc, bnd_assoc]
  congr 1
  funext r
  rw [bnd_assoc]
  rfl

/-! ### tests -/
theorem w_and (h1 : eT X Z e (tst Φ P t1)) (h2 : eW X Z (.BoolOp .And (e2 :: rest) pos) (tst Φ P t2)) : eW X Z (.BoolOp .And (e :: e2 :: rest) pos) (tst Φ P (.and t1 t2)) := fun Y o =>
  pw_imp (pw_and (h1 Y o) (h2 Y o)) fun σ H Q h => by
    rw [tst_and] at h
    obtain ⟨ρ, b, ρ', R, e, q⟩ := tT_of (tT_bnd h)
    refine tT_mk R e fun H1 P1 => ?_
    have z := q H1 P1
    cases b with
    | true => exact z
    | false => exact tT_ret z
theorem w_or (h1 : eT X Z e (tst Φ P t1)) (h2 : eW X Z (.BoolOp .Or (e2 :: rest) pos) (tst Φ P t2)) : eW X Z (.BoolOp .Or (e :: e2 :: rest) pos) (tst Φ P (.or t1 t2)) := fun Y o =>
  pw_imp (pw_or (h1 Y o) (h2 Y o)) fun σ H Q h => by
    rw [tst_or] at h
    obtain ⟨ρ, b, ρ', R, e, q⟩ := tT_of (tT_bnd h)
    refine tT_mk R e fun H1 P1 => ?_
    have z := q H1 P1
    cases b with
    | true => exact tT_ret z
    | false => exact z
theorem w_and1 {m : M Bool} (h : eT X Z e m) : eW X Z (.BoolOp .And [e] pos) m := fun Y o => pw_and1 (h Y o)
theorem w_or1 {m : M Bool} (h : eT X Z e m) : eW X Z (.BoolOp .Or [e] pos) m := fun Y o => pw_or1 (h Y o)
theorem t_not (h : eT X Z e (tst Φ P t)) : eT X Z (.UnaryOp .Not e pos) (tst Φ P (.not t)) := fun Y o =>
  pt_imp (pt_not (h Y o)) fun σ H Q h => by
    rw [tst_not] at h
    obtain ⟨ρ, b, ρ', R, e, q⟩ := tT_of (tT_bnd h)
    exact tT_mk R e fun H1 P1 => tT_ret (q H1 P1)
theorem tst_mk {Q : Bool → Hp → Prop} (h : tT Y (tst Φ P t) σ H Q) : tM Y (ev Φ P t) σ H fun x H1 => ∃ k, x = .bl k ∧ Q k H1 := by
  obtain ⟨ρ, b, ρ', R, e, q⟩ := tT_of h
  obtain ⟨r, ρ1, e1, e2⟩ := bnd_ok e
  obtain ⟨hb, rfl⟩ := asBool_ok e2
  exact tM_mk R e1 fun v H1 P1 r1 => ⟨b, resV_bool r1 hb, q H1 P1⟩
/-- a test by the value (a call, a name, a subscript) -/
theorem t_val (h : eM X Z e (ev Φ P t)) (he : ∀ whole, isTrue e X.env whole = (do let v ← whole; standAt e.pos; holding [v] (truthy v)) := by intro _; rfl) : eT X Z e (tst Φ P t) := fun Y o =>
  pt_imp (pt_val (h Y o) he) fun σ H Q h => tst_mk h
theorem t_cmp {op : CmpOp} {p : Prim} (ho : ∀ Y, Of Z Y → OpR X (compareOp op) (fun x y => rD Y p [x, y])) (h1 : eO X Z e1 (evO Φ P t1)) (h2 : eO X Z e2 (evO Φ P t2)) (hm : behindInMarks op e2 = false := by first | exact nomark _ | rfl | with_unfolding_all rfl) :
    eT X Z (.Compare e1 [op] [e2] pos) (tst Φ P (.prim p (.cons t1 (.cons t2 .nil)))) := fun Y o => pt_imp (pt_cmpR (ho Y o) (h1 Y o) (h2 Y o) hm) fun σ H Q h => by
      have z := tst_mk h
      rw [ev, evOs, evOs, evOs] at z
      exact tOp_of z
theorem tM_chain {p q : Prim} {Q : VK} (h : tM Y (ev Φ P (.chain p q t1 t2 t3)) σ H Q) : tChain (fun x y => rD Y p [x, y]) (fun x y => rD Y q [x, y]) (tO Y (evO Φ P t1)) (tO Y (evO Φ P t2)) (tO Y (evO Φ P t3)) σ H Q := by
  rw [ev] at h
  obtain ⟨ρ, r, ρ', R, e, k⟩ := tM_of h
  obtain ⟨x, ρ1, e1, e2⟩ := bnd_ok e
  obtain ⟨y, ρ2, e3, e4⟩ := bnd_ok e2
  obtain ⟨r1, ρ3, e5, e6⟩ := bnd_ok e4
  obtain ⟨c, ρ4, e7, e8⟩ := bnd_ok e6
  obtain ⟨hb, rfl⟩ := asBool_ok e7
  refine tO_mk R e1 fun v H1 P1 a1 => tO_mk P1.rep e3 fun u H2 P2 a2 => ?_
  have PP := P1.trans P2
  refine rD_of PP.rep (.cons (P2.resB a1) (.cons a2 .nil)) e5 fun z H3 P3 a3 => ⟨c, resV_bool a3 hb, ?_⟩
  have P4 := PP.trans P3
  cases c with
  | true =>
    rw [if_pos rfl] at e8 ⊢
    obtain ⟨w, ρ5, e9, e10⟩ := bnd_ok e8
    refine tO_mk P4.rep e9 fun w' H4 P5 a5 => ?_
    have P6 := P4.trans P5
    exact rD_of P6.rep (.cons (P5.resB (P3.resB a2)) (.cons a5 .nil)) e10 fun z' H5 P7 a7 => k z' H5 (P6.trans P7) (a7.back P6.none)
  | false =>
    rw [if_neg (by simp)] at e8 ⊢
    cases e8
    exact k _ _ P4 (show Rp _ _ _ _ from .bl false)
theorem m_chain {op op' : CmpOp} {p q : Prim} (ho : ∀ Y, Of Z Y → OpR X (compareOp op) (fun x y => rD Y p [x, y])) (ho' : ∀ Y, Of Z Y → OpR X (compareOp op') (fun x y => rD Y q [x, y]))
    (h1 : eO X Z e1 (evO Φ P t1)) (h2 : eO X Z e2 (evO Φ P t2)) (h3 : eO X Z e3 (evO Φ P t3)) (hm : lastMarks [op, op'] [e2, e3] = false := by with_unfolding_all rfl) :
    eM X Z (.Compare e1 [op, op'] [e2, e3] pos) (ev Φ P (.chain p q t1 t2 t3)) := fun Y o => pe_imp (L2.pe_chain (ho Y o) (ho' Y o) (h1 Y o) (h2 Y o) (h3 Y o) hm) fun _ _ _ h => tM_chain h
theorem t_chain {op op' : CmpOp} {p q : Prim} (ho : ∀ Y, Of Z Y → OpR X (compareOp op) (fun x y => rD Y p [x, y])) (ho' : ∀ Y, Of Z Y → OpR X (compareOp op') (fun x y => rD Y q [x, y]))
    (h1 : eO X Z e1 (evO Φ P t1)) (h2 : eO X Z e2 (evO Φ P t2)) (h3 : eO X Z e3 (evO Φ P t3)) (hm : lastMarks [op, op'] [e2, e3] = false := by with_unfolding_all rfl) :
    eT X Z (.Compare e1 [op, op'] [e2, e3] pos) (tst Φ P (.chain p q t1 t2 t3)) := fun Y o => pt_imp (L2.pt_chain (ho Y o) (ho' Y o) (h1 Y o) (h2 Y o) (h3 Y o) hm) fun _ _ _ h => tM_chain (tst_mk h)

/-! ### as values -/
theorem m_and (h1 : eM X Z e (ev Φ P t1)) (h2 : eM X Z (.BoolOp .And (e2 :: rest) pos) (bnd (ev Φ P t2) boolV)) : eM X Z (.BoolOp .And (e :: e2 :: rest) pos) (ev Φ P (.and t1 t2)) := fun Y o =>
  pe_imp (L2.pe_and (h1 Y o) (h2 Y o)) fun σ H Q h => by
    rw [ev_and, tst, bnd_assoc] at h
    obtain ⟨ρ, r, ρ', R, e, q⟩ := tM_of (tM_bool h)
    refine tM_mk R e fun v H1 P1 r1 => ?_
    obtain ⟨c, hc, z⟩ := q v H1 P1 r1
    refine ⟨c, hc, ?_⟩
    cases c with
    | true => exact z
    | false => exact tM_retB z
theorem m_or (h1 : eM X Z e (ev Φ P t1)) (h2 : eM X Z (.BoolOp .Or (e2 :: rest) pos) (bnd (ev Φ P t2) boolV)) : eM X Z (.BoolOp .Or (e :: e2 :: rest) pos) (ev Φ P (.or t1 t2)) := fun Y o =>
  pe_imp (L2.pe_or (h1 Y o) (h2 Y o)) fun σ H Q h => by
    rw [ev_or, tst, bnd_assoc] at h
    obtain ⟨ρ, r, ρ', R, e, q⟩ := tM_of (tM_bool h)
    refine tM_mk R e fun v H1 P1 r1 => ?_
    obtain ⟨c, hc, z⟩ := q v H1 P1 r1
    refine ⟨c, hc, ?_⟩
    cases c with
    | true => exact tM_retB z
    | false => exact z
/-- the last of them; or one that is itself an and, an or -/
theorem m_last {op : BoolOp} (h : eM X Z e (ev Φ P t)) : eM X Z (.BoolOp op [e] pos) (bnd (ev Φ P t) boolV) := fun Y o =>
  pe_imp (pe_one (h Y o)) fun σ H Q h => by
    obtain ⟨ρ, r, ρ', R, e, q⟩ := tM_of h
    obtain ⟨r1, ρ1, e1, e2⟩ := bnd_ok e
    obtain ⟨c, ρ2, e3, e4⟩ := bnd_ok e2
    obtain ⟨hb, rfl⟩ := asBool_ok e3
    cases e4
    refine tM_mk R e1 fun v H1 P1 r2 => q v H1 P1 ?_
    rw [resV_bool r2 hb]
    exact (show Rp _ _ _ _ from .bl c)
theorem m_more (h : eM X Z e (ev Φ P (.and t1 t2))) : eM X Z e (bnd (ev Φ P (.and t1 t2)) boolV) := fun Y o =>
  pe_imp (h Y o) fun σ H Q h => by
    obtain ⟨ρ, r, ρ', R, e, q⟩ := tM_of h
    obtain ⟨r1, ρ1, e1, e2⟩ := bnd_ok e
    obtain ⟨c, ρ2, e3, e4⟩ := bnd_ok e2
    obtain ⟨hb, rfl⟩ := asBool_ok e3
    cases e4
    refine tM_mk R e1 fun v H1 P1 r2 => q v H1 P1 ?_
    rw [resV_bool r2 hb]
    exact (show Rp _ _ _ _ from .bl c)
theorem m_moreO (h : eM X Z e (ev Φ P (.or t1 t2))) : eM X Z e (bnd (ev Φ P (.or t1 t2)) boolV) := fun Y o =>
  pe_imp (h Y o) fun σ H Q h => by
    obtain ⟨ρ, r, ρ', R, e, q⟩ := tM_of h
    obtain ⟨r1, ρ1, e1, e2⟩ := bnd_ok e
    obtain ⟨c, ρ2, e3, e4⟩ := bnd_ok e2
    obtain ⟨hb, rfl⟩ := asBool_ok e3
    cases e4
    refine tM_mk R e1 fun v H1 P1 r2 => q v H1 P1 ?_
    rw [resV_bool r2 hb]
    exact (show Rp _ _ _ _ from .bl c)
theorem m_not (h : eM X Z e (ev Φ P t)) : eM X Z (.UnaryOp .Not e pos) (ev Φ P (.not t)) := fun Y o =>
  pe_imp (L2.pe_not (h Y o)) fun σ H Q h => by
    rw [ev] at h
    obtain ⟨ρ, r, ρ', R, e, q⟩ := tM_of (tM_bool h)
    refine tM_mk R e fun v H1 P1 r1 => ?_
    obtain ⟨c, hc, z⟩ := q v H1 P1 r1
    exact ⟨c, hc, tM_retB z⟩
theorem m_ife (h : eT X Z e (tst Φ P t)) (h1 : eM X Z e1 (ev Φ P t1)) (h2 : eM X Z e2 (ev Φ P t2)) : eM X Z (.IfExp e e1 e2 pos) (ev Φ P (.ife t t1 t2)) := fun Y o =>
  pe_imp (pe_ifExp (h Y o) (h1 Y o) (h2 Y o)) fun σ H Q h => by
    rw [ev, ← bnd_assoc] at h
    obtain ⟨ρ, b, ρ', R, e, q⟩ := tT_of (tMT_bnd (m := tst Φ P t) h)
    refine tT_mk R e fun H1 P1 => ?_
    have z := q H1 P1
    cases b with
    | true => exact z
    | false => exact z
end
end Ty
set_option autoImplicit false
set_option maxHeartbeats 200000
/-! T4c: displays, slices, calls of built-in functions. -/
namespace Ty
open PySem.Spec PyProof.Rows L2 PySem
section
variable {X : Cx} {Z : Zc} {Y : Yc} {Φ : Fns} {P : Pars} {e e1 e2 e3 : Expr} {es rest : List Expr} {pos p p2 : Pos} {t t1 t2 t3 : Ex} {ts : Exs} {σ : L2.St} {H : Hp}
/-! ### lists of values -/
theorem os_nil : eOs X Z [] (evOs Φ P .nil) := fun Y _ => by rw [evOs]; exact pa_nilO
theorem os_cons (h1 : eO X Z e (evO Φ P t)) (h2 : eOs X Z es (evOs Φ P ts)) (hs : starEach (e :: es) X.env = (false, eval e X.env) :: starEach es X.env := by rfl) : eOs X Z (e :: es) (evOs Φ P (.cons t ts)) := fun Y o => by
  rw [evOs]; exact pa_consO (h1 Y o) (h2 Y o) hs
theorem ms_nil : eMs X Z [] (evs Φ P .nil) := fun Y _ => by rw [evs]; exact pa_nilM
theorem ms_cons (h1 : eM X Z e (ev Φ P t)) (h2 : eMs X Z es (evs Φ P ts)) (hs : starEach (e :: es) X.env = (false, eval e X.env) :: starEach es X.env := by rfl) : eMs X Z (e :: es) (evs Φ P (.cons t ts)) := fun Y o => by
  rw [evs]; exact pa_consM (h1 Y o) (h2 Y o) hs
def lenX : Exs → Nat
  | .nil => 0
  | .cons _ ts => lenX ts + 1
theorem evs_len : ∀ (ts : Exs) (ρ : Env) (ds : List D) (ρ' : Env), evs Φ P ts ρ = .ok ds ρ' → ds.length = lenX ts
  | .nil, ρ, ds, ρ', h => by rw [evs] at h; cases h; rfl
  | .cons t ts, ρ, ds, ρ', h => by
    rw [evs] at h
    obtain ⟨r, ρ1, h1, h2⟩ := bnd_ok h
    obtain ⟨ds1, ρ2, h3, h4⟩ := bnd_ok h2
    cases h4
    rw [List.length_cons, evs_len ts _ _ _ h3]; rfl
theorem m_tup {x1 : Nat} (c : Cd X Z) (h : eMs X Z es (evs Φ P ts)) (hl : es.length = lenX ts := by rfl) (hz : es.length ≤ 1000000 := by decide) : eM X Z (.Tuple es x1 pos) (ev Φ P (.tup ts)) := fun Y o => by
  rw [ev]; exact pe_tupM (c.t o) hz (h Y o) fun ρ ds ρ' e => (evs_len ts ρ ds ρ' e).trans hl.symm
theorem m_lst (c : Cd X Z) (h : eMs X Z es (evs Φ P ts)) (hl : es.length = lenX ts := by rfl) (hz : es.length ≤ 1000000 := by decide) : eM X Z (.List es pos) (ev Φ P (.lst ts)) := fun Y o => by
  rw [ev]; exact pe_lstM (c.t o) hz (h Y o) fun ρ ds ρ' e => (evs_len ts ρ ds ρ' e).trans hl.symm

/-! ### values as operands -/
def plainX : Ex → Bool
  | .var _ => false
  | .con _ => false
  | .glb _ _ => false
  | .prim _ _ => false
  | _ => true
theorem evO_pl (h : plainX t = true) : evO Φ P t = bnd (ev Φ P t) fun r => ret (.val r.1) := by
  cases t <;> first | rw [evO] <;> simp | simp [plainX] at h
theorem o_pl (h : eM X Z e (ev Φ P t)) (hp : plainX t = true := by rfl) : eO X Z e (evO Φ P t) := by rw [evO_pl hp]; exact o_of h

/-! ### built-in functions -/
theorem tCB_of {q : Prim} {ms : M (List B)} {Q : VK} (h : tM Y (bnd ms (prim q)) σ H Q) : tCB (rD Y q) (tOs Y ms) σ H Q := by
  obtain ⟨ρ, r, ρ', R, e, k⟩ := tM_of h
  obtain ⟨bs, ρ1, e1, e2⟩ := bnd_ok e
  refine tOs_mk R e1 fun vs H1 P1 r1 => ?_
  exact rD_of P1.rep r1 e2 fun v H2 P2 r2 => k v H2 (P1.trans P2) (r2.back P1.none)
theorem m_bi {f : String} {x : Str} {id : String} (hc : ∀ Y, Of Z Y → CallR X (.builtin id) (rD Y (.bi f))) (ha : eOs X Z (e :: es) (evOs Φ P ts)) (hm : X.mg x = none) (hv : bootBuiltins x = some (.builtin id)) (hg : Gl X x := by rfl)
    (hn : x ≠ "__name__" := by decide) (hdb : (x == ("__debug__" : Str)) = false := by decide) (he : starEach (e :: es) X.env = (false, eval e X.env) :: starEach es X.env := by rfl) (hpl : (backTo pos (starEach es X.env)).any (·.1) = false := by rfl) :
    eM X Z (.Call (.Name x p) (e :: es) [] pos) (ev Φ P (.prim (.bi f) ts)) := fun Y o => pe_imp (pe_callB (hc Y o) hg hm hv (ha Y o) hn hdb he hpl) fun _ _ _ h => tCB_of (by rw [ev] at h; exact h)
theorem m_ty {f : String} {x : Str} {id : String} (hc : ∀ Y, Of Z Y → CallR X (.type id) (rD Y (.bi f))) (ha : eOs X Z (e :: es) (evOs Φ P ts)) (hm : X.mg x = none) (hv : bootBuiltins x = some (.type id)) (hg : Gl X x := by rfl)
    (hn : x ≠ "__name__" := by decide) (hdb : (x == ("__debug__" : Str)) = false := by decide) (he : starEach (e :: es) X.env = (false, eval e X.env) :: starEach es X.env := by rfl) (hpl : (backTo pos (starEach es X.env)).any (·.1) = false := by rfl) :
    eM X Z (.Call (.Name x p) (e :: es) [] pos) (ev Φ P (.prim (.bi f) ts)) := fun Y o => pe_imp (pe_callTy (hc Y o) hg hm hv (ha Y o) hn hdb he hpl) fun _ _ _ h => tCB_of (by rw [ev] at h; exact h)

/-! ### slices -/
theorem tM_bnd {α : Type} {m : M α} {f : α → M R} {ρ : Env} {Q : VK} (h : tM Y (bnd m f) σ H Q) : ∃ ρ a ρ1 r ρ', RepE Y ρ σ H ∧ m ρ = .ok a ρ1 ∧ f a ρ1 = .ok r ρ' ∧ ∀ v H', Post Y ρ ρ' σ H H' → ResV Y ρ' σ H H' r v → Q v H' := by
  obtain ⟨ρ, r, ρ', R, e, k⟩ := tM_of h
  obtain ⟨a, ρ1, e1, e2⟩ := bnd_ok e
  exact ⟨ρ, a, ρ1, r, ρ', R, e1, e2, k⟩
/-- a bound that the operation takes is an int -/
theorem int_of_B {ρ : Env} {b : B} {v : V} {i : Int} {H : Hp} (R : RepE Y ρ σ H) (h : ResB Y ρ σ H b v) (e : fetch ρ b = some (.int i)) : v = .int i := (top_of R h e).int
theorem fetch1 {ρ : Env} {b : B} {ds : List D} (h : fetchAll ρ [b] = some ds) : ∃ d, fetch ρ b = some d ∧ ds = [d] := by
  simp only [fetchAll] at h
  split at h
  · rename_i e1 e2
    cases e2
    cases h
    exact ⟨_, e1, rfl⟩
  · cases h
theorem fetchC {ρ : Env} {b : B} {bs : List B} {ds : List D} (h : fetchAll ρ (b :: bs) = some ds) : ∃ d ds', fetch ρ b = some d ∧ fetchAll ρ bs = some ds' ∧ ds = d :: ds' := by
  simp only [fetchAll] at h
  split at h
  · rename_i e1 e2
    cases h
    exact ⟨_, _, e1, e2, rfl⟩
  · cases h
theorem app_slT {d e : D} {ds : List D} {bh : Bool} {r : Ty.R} (h : app (.sl true bh) (d :: e :: ds) = some r) : ∃ i, e = .int i := by
  cases bh
  · cases e <;> cases ds <;> first | exact ⟨_, rfl⟩ | cases h
  · cases e <;> first | exact ⟨_, rfl⟩ | (cases ds <;> cases h)
theorem app_slF {d e : D} {r : Ty.R} (h : app (.sl false true) [d, e] = some r) : ∃ i, e = .int i := by
  cases e <;> first | exact ⟨_, rfl⟩ | cases h
theorem app_slU {d e f : D} {r : Ty.R} (h : app (.sl true true) [d, e, f] = some r) : ∃ i, f = .int i := by
  cases e <;> cases f <;> first | exact ⟨_, rfl⟩ | cases h
theorem m_sl10 (c : Cd X Z) (h1 : eO X Z e1 (evO Φ P t1)) (h2 : eO X Z e2 (evO Φ P t2)) : eM X Z (.Subscript e1 (.Slice (some e2) none none p2) pos) (ev Φ P (.prim (.sl true false) (.cons t1 (.cons t2 .nil)))) := fun Y o =>
  pe_imp (pe_slice (dr_sl (bl := true) (bh := false) (c.k o) (c.t o)) (h1 Y o) (po_some (h2 Y o)) po_none) fun σ H Q h => by
    rw [ev, evOs, evOs, evOs] at h
    obtain ⟨ρ, r, ρ', R, e, k⟩ := tM_of h
    obtain ⟨bs, ρ1, e1, e2⟩ := bnd_ok e
    obtain ⟨x, ρ2, e3, e4⟩ := bnd_ok e1
    obtain ⟨ys, ρ3, e5, e6⟩ := bnd_ok e4
    obtain ⟨y, ρ4, e7, e8⟩ := bnd_ok e5
    cases e6; cases e8
    refine tO_mk R e3 fun v H1 P1 r1 => tO_mk P1.rep e7 fun u H2 P2 r2 => ?_
    obtain ⟨ds, f1, f2, rfl⟩ := prim_ok e2
    obtain ⟨d, ds', g1, g2, rfl⟩ := fetchC f1
    obtain ⟨d2, g3, rfl⟩ := fetch1 g2
    obtain ⟨i, rfl⟩ := app_slT f2
    have PP := P1.trans P2
    have hu := int_of_B PP.rep r2 g3
    subst hu
    exact ⟨i, rfl, rfl, rfl, rD_of (vs := [v, V.int i]) PP.rep (.cons (P2.resB r1) (.cons r2 .nil)) e2 fun v H' P3 r3 => k v H' (PP.trans P3) (r3.back PP.none)⟩
theorem m_sl01 (c : Cd X Z) (h1 : eO X Z e1 (evO Φ P t1)) (h2 : eO X Z e2 (evO Φ P t2)) : eM X Z (.Subscript e1 (.Slice none (some e2) none p2) pos) (ev Φ P (.prim (.sl false true) (.cons t1 (.cons t2 .nil)))) := fun Y o =>
  pe_imp (pe_slice (dr_sl (bl := false) (bh := true) (c.k o) (c.t o)) (h1 Y o) po_none (po_some (h2 Y o))) fun σ H Q h => by
    rw [ev, evOs, evOs, evOs] at h
    obtain ⟨ρ, r, ρ', R, e, k⟩ := tM_of h
    obtain ⟨bs, ρ1, e1, e2⟩ := bnd_ok e
    obtain ⟨x, ρ2, e3, e4⟩ := bnd_ok e1
    obtain ⟨ys, ρ3, e5, e6⟩ := bnd_ok e4
    obtain ⟨y, ρ4, e7, e8⟩ := bnd_ok e5
    cases e6; cases e8
    refine tO_mk R e3 fun v H1 P1 r1 => tO_mk P1.rep e7 fun u H2 P2 r2 => ?_
    obtain ⟨ds, f1, f2, rfl⟩ := prim_ok e2
    obtain ⟨d, ds', g1, g2, rfl⟩ := fetchC f1
    obtain ⟨d2, g3, rfl⟩ := fetch1 g2
    obtain ⟨i, rfl⟩ := app_slF f2
    have PP := P1.trans P2
    have hu := int_of_B PP.rep r2 g3
    subst hu
    exact ⟨i, rfl, rfl, rfl, rD_of (vs := [v, V.int i]) PP.rep (.cons (P2.resB r1) (.cons r2 .nil)) e2 fun v H' P3 r3 => k v H' (PP.trans P3) (r3.back PP.none)⟩
theorem m_sl11 (c : Cd X Z) (h1 : eO X Z e1 (evO Φ P t1)) (h2 : eM X Z e2 (ev Φ P t2)) (h3 : eM X Z e3 (ev Φ P t3)) : eM X Z (.Subscript e1 (.Slice (some e2) (some e3) none p2) pos) (ev Φ P (.sl11 t1 t2 t3)) := fun Y o =>
  pe_imp (pe_slice (dr_sl (bl := true) (bh := true) (c.k o) (c.t o)) (h1 Y o) (po_some (h2 Y o)) (po_some (h3 Y o))) fun σ H Q h => by
    rw [ev] at h
    obtain ⟨ρ, r, ρ', R, e, k⟩ := tM_of h
    obtain ⟨x, ρ1, e1, e2⟩ := bnd_ok e
    obtain ⟨y, ρ2, e3, e4⟩ := bnd_ok e2
    obtain ⟨z, ρ3, e5, e6⟩ := bnd_ok e4
    obtain ⟨ds, f1, f2, _⟩ := prim_ok e6
    obtain ⟨d, ds', g1, g2, rfl⟩ := fetchC f1
    obtain ⟨d2, ds2, g3, g4, rfl⟩ := fetchC g2
    obtain ⟨d3, g5, rfl⟩ := fetch1 g4
    obtain ⟨i, rfl⟩ := app_slT f2
    obtain ⟨j, rfl⟩ := app_slU f2
    have q3 : y.1 = .int i := Option.some.inj g3
    have q5 : z.1 = .int j := Option.some.inj g5
    refine tO_mk R e1 fun v H1 P1 r1 => tM_mk P1.rep e3 fun u H2 P2 r2 => ?_
    have PP := P1.trans P2
    have hu := r2.rp
    rw [q3] at hu
    cases hu
    refine ⟨i, rfl, tM_mk PP.rep e5 fun w H3 P3 r3 => ?_⟩
    have P4 := PP.trans P3
    have hw := r3.rp
    rw [q5] at hw
    cases hw
    refine ⟨j, rfl, rfl, rfl, rD_of (vs := [v, V.int i, V.int j]) P4.rep (.cons (P3.resB (P2.resB r1)) (.cons ?_ (.cons ?_ .nil))) e6 fun v' H' P5 r5 => k v' H' (P4.trans P5) (r5.back P4.none)⟩
    · rw [q3]; exact (show Rp _ _ _ _ from .int i)
    · rw [q5]; exact (show Rp _ _ _ _ from .int j)

/-! ### isinstance -/
theorem kit_of_D : ∀ d : D, ∀ t ∈ ["int", "bool", "str", "tuple", "list"], L2.kitB (typeName d) t = some (isiD d t) := by
  have h : ∀ a ∈ ["NoneType", "bool", "int", "str", "list", "tuple", "dict"], ∀ t ∈ ["int", "bool", "str", "tuple", "list"], L2.kitB a t = some (a == t || (a == "bool" && t == "int")) := by decide +kernel
  intro d t ht
  exact h (typeName d) (by cases d <;> simp [typeName]) t ht
theorem tyx_of {K : PySem.W.Frag} {H : Hp} {v : V} {d : D} (h : Rp K H v d) : TyX K H v (.type (typeName d)) := by
  cases h with
  | non => exact .base .non
  | bl b => exact .base (.bl b)
  | int i => exact .base (.int i)
  | str x => exact .base (.str x)
  | lst h r =>
    rcases h with (h | ⟨o, h⟩) | ⟨o, its, n, h, c, _⟩
    · exact .base (.lst h)
    · exact .base (.frz h)
    · exact .kList h c
  | tup h r =>
    rcases h with (h | ⟨o, h⟩) | ⟨o, its, n, h, c, _⟩
    · exact .base (.tup h)
    · exact .fTuple h
    · exact .kTuple h c
  | dic h o r =>
    obtain ⟨kv, rfl, _⟩ := o
    rcases h with h | ⟨q, h⟩
    · exact .base (.dK h)
    · exact .fDict h
theorem m_isi {ty : String} {x x2 : Str} (h : eM X Z e (ev Φ P t)) (c : Cd X Z) (ht : ty ∈ ["int", "bool", "str", "tuple", "list"]) (hm : X.mg "isinstance" = none) (hm2 : X.mg x2 = none) (hv2 : bootBuiltins x2 = some (.type ty))
    (hg : Gl X "isinstance" := by rfl) (hg2 : Gl X x2 := by rfl) (hn : x2 ≠ "__name__" := by decide) (hd : (x2 == ("__debug__" : Str)) = false := by decide)
    (he : starEach (e :: [Expr.Name x2 p2]) X.env = (false, eval e X.env) :: starEach [Expr.Name x2 p2] X.env := by rfl) (he2 : starEach (Expr.Name x2 p2 :: []) X.env = (false, eval (Expr.Name x2 p2) X.env) :: starEach [] X.env := by rfl) (hpl : (backTo pos (starEach [Expr.Name x2 p2] X.env)).any (·.1) = false := by rfl) :
    eM X Z (.Call (.Name "isinstance" p) [e, .Name x2 p2] [] pos) (ev Φ P (.isi t ty)) := fun Y o =>
  pe_imp (pe_callB call_isi hg hm boot_isinstance (pa_cons (h Y o) (pa_cons (pe_bltn (v := .ty ty) hg2 hm2 hv2 rfl hn hd) pa_nil he2) he) (by decide) (by decide) he hpl) fun σ H Q h => by
    rw [ev] at h
    obtain ⟨ρ, r, ρ', R, e, k⟩ := tM_of h
    obtain ⟨y, ρ1, e1, e2⟩ := bnd_ok e
    cases e2
    refine tM_mk R e1 fun v H1 P1 r1 => ?_
    refine ⟨v, .ty ty, .type (typeName y.1), .type ty, isiD y.1 ty, rfl, .ty ty, ?_, kit_ty (kit_of_D y.1 ty ht), k _ H1 P1 (show Rp _ _ _ _ from .bl _)⟩
    have z := tyx_of (r1.rp.mono cut_keep)
    rw [o.1, c.hK] at z
    exact z
end
end Ty
set_option autoImplicit false
set_option maxHeartbeats 200000
/-! T4d: sum, min, max, str, repr, reversed slices, dict reads. -/
namespace Ty
open PySem.Spec PyProof.Rows L2 PySem
section
variable {X : Cx} {Z : Zc} {Y : Yc} {Φ : Fns} {P : Pars} {e e1 e2 e3 : Expr} {es rest : List Expr} {pos p p2 p3 : Pos} {t t1 t2 t3 : Ex} {ts : Exs} {σ : L2.St} {H : Hp}
theorem cb_sum (hK : Y.K = X.K) (hc : X.calm = true) : CallR X (.builtin "sum") (rD Y (.bi "sum")) := by
  intro pins s σ H xs us Q I r z
  obtain ⟨ρ, σ', ds, r', R, T, ea, q⟩ := z
  replace ea : biD "sum" ds = some r' := ea
  unfold biD at ea
  rw [if_neg (by decide), if_neg (by decide), if_neg (by decide), if_neg (by decide), if_neg (by decide), if_pos rfl] at ea
  split at ea
  · obtain ⟨ns, e1, rfl⟩ := Option.map_eq_some_iff.mp ea
    obtain ⟨v, rfl, t⟩ := tops1' T
    obtain ⟨a, vs, rfl, h1, r1⟩ := t.list
    rw [hK] at h1
    obtain ⟨rfl, _⟩ := r1.ints e1
    exact cr_sum hc pins s σ H _ us Q I r ⟨a, ns, rfl, h1, stays R q (.int _)⟩
  · cases ea
theorem cb_min (hc : X.calm = true) : CallR X (.builtin "min") (rD Y (.bi "min")) := by
  intro pins s σ H xs us Q I r z
  obtain ⟨ρ, σ', ds, r', R, T, ea, q⟩ := z
  replace ea : biD "min" ds = some r' := ea
  unfold biD at ea
  rw [if_neg (by decide), if_neg (by decide), if_neg (by decide), if_neg (by decide), if_neg (by decide), if_neg (by decide), if_pos rfl] at ea
  split at ea
  · cases ea
    obtain ⟨v, u, rfl, t, t'⟩ := tops2' T
    exact call_min2 hc pins s σ H _ us Q I r ⟨_, _, by rw [t.int, t'.int], stays R q (.int _)⟩
  · cases ea
theorem cb_max (hc : X.calm = true) : CallR X (.builtin "max") (rD Y (.bi "max")) := by
  intro pins s σ H xs us Q I r z
  obtain ⟨ρ, σ', ds, r', R, T, ea, q⟩ := z
  replace ea : biD "max" ds = some r' := ea
  unfold biD at ea
  rw [if_neg (by decide), if_neg (by decide), if_neg (by decide), if_neg (by decide), if_neg (by decide), if_neg (by decide), if_neg (by decide), if_pos rfl] at ea
  split at ea
  · cases ea
    obtain ⟨v, u, rfl, t, t'⟩ := tops2' T
    exact call_max2 hc pins s σ H _ us Q I r ⟨_, _, by rw [t.int, t'.int], stays R q (.int _)⟩
  · cases ea
theorem cb_repr (hK : Y.K = X.K) (hu : X.A.units + 70 < cLine) (hg : X.A.guards = some []) : CallR X (.builtin "repr") (rD Y (.bi "repr")) := by
  intro pins s σ H xs us Q I r z
  obtain ⟨ρ, σ', ds, r', R, T, ea, q⟩ := z
  replace ea : biD "repr" ds = some r' := ea
  unfold biD at ea
  rw [if_neg (by decide), if_neg (by decide), if_neg (by decide), if_neg (by decide), if_neg (by decide), if_neg (by decide), if_neg (by decide), if_neg (by decide), if_pos rfl] at ea
  split at ea
  · rename_i d
    obtain ⟨c, rfl⟩ := ite_some ea
    simp only [Bool.and_eq_true, decide_eq_true_eq] at c
    obtain ⟨⟨⟨c1, c2⟩, c3⟩, c4⟩ := c
    obtain ⟨v, rfl, t⟩ := tops1' T
    have dp := t.dp c2
    rw [hK] at dp
    cases r with
    | @cons _ u _ _ ru rest =>
    cases rest
    obtain ⟨as, q1⟩ := Dp.reads I d v u dp ru
    have fin : ∀ (h' : Heap) (u' tk : Nat), (∀ b o, s.heap.get? b = some o → h'.get? b = some o) → EP X pins σ Q (.str d.shown u') { s with heap := h', toks := tk } := fun h' u' tk k =>
      ⟨.str _, H, I.kept k, ⟨_, rfl⟩, stays R q (.str _)⟩
    cases d with
    | none => cases q1; exact PySem.P.repr_of_none (by simpa [PyData.shown] using fin s.heap s.toks (s.toks + 1) fun _ _ e => e)
    | bool b => cases q1; exact PySem.P.repr_of_bool (by simpa [PyData.shown] using fin s.heap s.toks (s.toks + 1) fun _ _ e => e)
    | int i => cases q1; exact PySem.P.repr_of_int (by simpa [PyData.showable] using c1) (by simpa [PyData.shown] using fin s.heap s.toks (s.toks + 1) fun _ _ e => e)
    | str x => cases q1; exact PySem.P.repr_of_str (by simpa [PyData.shown] using fin s.heap s.toks (s.toks + 1) fun _ _ e => e) (by simpa [PyData.shown] using small_sz c4)
    | list xs =>
      obtain ⟨a, ws, rfl, _⟩ := t.list
      cases ru
      exact PySem.repr_of_reads' q1 c1 (fun z => by rw [PyData.hasDict_of_canLay _ c2] at z; cases z) hg (by omega) (fun _ _ e => e) fin (small_sz c4)
    | tuple xs =>
      obtain ⟨a, ws, rfl, _⟩ := t.tuple
      cases ru
      exact PySem.repr_of_reads' q1 c1 (fun z => by rw [PyData.hasDict_of_canLay _ c2] at z; cases z) hg (by omega) (fun _ _ e => e) fin (small_sz c4)
    | dict kvs => simp [PyData.canLay0] at c2
  · cases ea
theorem cb_str : CallR X (.type "str") (rD Y (.bi "str")) := by
  intro pins s σ H xs us Q I r z
  obtain ⟨ρ, σ', ds, r', R, T, ea, q⟩ := z
  replace ea : biD "str" ds = some r' := ea
  unfold biD at ea
  rw [if_neg (by decide), if_neg (by decide), if_neg (by decide), if_neg (by decide), if_neg (by decide), if_neg (by decide), if_neg (by decide), if_neg (by decide), if_neg (by decide), if_pos rfl] at ea
  split at ea
  · obtain ⟨c, rfl⟩ := ite_some ea
    obtain ⟨v, rfl, t⟩ := tops1' T
    exact call_str_int pins s σ H _ us Q I r ⟨_, by rw [t.int], by have := of_decide_eq_true c; omega, stays R q (.str _)⟩
  · cases ea
/-! ### xs[::-1] -/
/-! ### dicts that are written in the module -/
/-- the dict at a name: what is found at a key -/
def KTab (X : Cx) (Z : Zc) (x : Str) (kvs : List (Str × D)) : Prop := ∃ a, X.mg x = some (.ref a) ∧ (a == sysModules) = false ∧
  ∀ z : Str, ∃ es n, X.K.lookup a = some ⟨.type "dict", none, .dict es n, #[]⟩ ∧ PySem.W.KeysLit X.w.params es.toList ∧ ∃ o, PySem.W.nsIn X.K a z = some o ∧
    (match kvs.lookup z with
      | none => o = none
      | some d => ∃ u v, o = some u ∧ RelV v u ∧ Rp Z.K (fun _ => none) v d)
def tKget (K : PySem.W.Frag) (w : World) (a : Addr) (tk td : TE) : TE := fun σ H Q => tk σ H fun y H1 => td σ H1 fun d H2 => ∃ z, y = .str z ∧ ∃ es n, K.lookup a = some ⟨.type "dict", none, .dict es n, #[]⟩ ∧ PySem.W.KeysLit w.params es.toList ∧
  ∃ o, PySem.W.nsIn K a z = some o ∧ ∃ v, (match o with
    | none => v = d
    | some u => RelV v u) ∧ Q v H2
theorem pe_kget {x : Str} {a : Addr} {tk td : TE} {apos cpos : Pos} (hm : X.mg x = some (.ref a)) (hs : (a == sysModules) = false) (hg : Gl X x) (hd : (x == ("__debug__" : Str)) = false) (h1 : PE X e1 tk) (h2 : PE X e2 td) (m : M2 X (.Name x p) "get" apos e1 e2 cpos)
    (hk : ∃ es n, X.K.lookup a = some ⟨.type "dict", none, .dict es n, #[]⟩ ∧ PySem.W.KeysLit X.w.params es.toList) : PE X (.Call (.Attribute (.Name x p) "get" apos) [e1, e2] [] cpos) (tKget X.K X.w a tk td) := by
  obtain ⟨es0, n0, hl0, hk0⟩ := hk
  refine (⟨fun pins s σ H Q I h => ?_⟩)
  refine wpAny_Call_method m.base m.few m.line PySem.F.plainAttrs_dict PySem.F.slot_dict_get PySem.F.type_dict_get (ld_glob I hg hm ?_ hd)
  have mp := PySem.W.mapOf_K (prog := X.prog) (w := X.w) I.kIn hl0 hk0
  refine ⟨mp.typeIs, fun b q => ?_, ?_⟩
  · cases q
    exact ⟨_, I.kIn _ _ hl0, rfl⟩
  rw [m.trees]
  refine Calls.callWith_builtin rfl (Calls.evalArgs_plain (Calls.spliced_cons (thn (h1.run pins s σ H _ I h) fun iv s2 ⟨y, H2, I2, ry, q2⟩ =>
    Calls.spliced_cons (thn (h2.run pins s2 σ H2 _ I2 q2) fun fv s3 ⟨d, H3, I3, rd, z, ez, es, n, hl, hk, o, ho, v, hv, q3⟩ => Calls.spliced_nil ?_))))
  subst ez
  obtain ⟨t, rfl⟩ := ry
  have mp3 := PySem.W.mapOf_K (prog := X.prog) (w := X.w) I3.kIn hl hk
  refine call_meetsIn PySem.F.slot_dict_get mp3.typeIs PySem.F.entry_dict_get (PySem.F.args_dict_get_3 _ _ _) (meets_dict_get_default (strKind X.prog X.w) a (strKind_is X.prog X.w z t) hs fv) ⟨_, mp3, ?_⟩
  rw [PySem.W.find_K hl ho]
  refine ⟨v, H3, I3.tok _, ?_, q3⟩
  cases o with
  | none => cases hv; exact rd
  | some u => exact hv
theorem m_kget {x : Str} {kvs : List (Str × D)} {apos cpos : Pos} (c : Cd X Z) (hT : KTab X Z x kvs) (h1 : eM X Z e1 (ev Φ P t1)) (h2 : eM X Z e2 (ev Φ P t2)) (m : M2 X (.Name x p) "get" apos e1 e2 cpos := by exact ⟨rfl, rfl, rfl, rfl⟩) (hg : Gl X x := by rfl) (hd : (x == ("__debug__" : Str)) = false := by decide) :
    eM X Z (.Call (.Attribute (.Name x p) "get" apos) [e1, e2] [] cpos) (ev Φ P (.kget x kvs t1 t2)) := fun Y o => by
  obtain ⟨a, hm, hs, hz⟩ := hT
  obtain ⟨es0, n0, hl0, hk0, _⟩ := hz x
  refine pe_imp (pe_kget hm hs hg hd (h1 Y o) (h2 Y o) m ⟨es0, n0, hl0, hk0⟩) fun σ H Q h => ?_
  rw [ev] at h
  obtain ⟨ρ, r, ρ', R, e, k⟩ := tM_of h
  obtain ⟨y, ρ1, e1, e2⟩ := bnd_ok e
  obtain ⟨d, ρ2, e3, e4⟩ := bnd_ok e2
  obtain ⟨dy, ny⟩ := y
  cases dy with
  | str z =>
    cases e4
    refine tM_mk R e1 fun v H1 P1 r1 => tM_mk P1.rep e3 fun u H2 P2 r2 => ?_
    have hv := r1.rp
    cases hv
    have PP := P1.trans P2
    obtain ⟨es, n, hl, hk, o', ho, hf⟩ := hz z
    refine ⟨z, rfl, es, n, hl, hk, o', ho, ?_⟩
    cases q : kvs.lookup z with
    | none =>
      rw [q] at hf k
      subst hf
      exact ⟨u, rfl, k u H2 PP (show Rp _ _ _ _ from r2.rp)⟩
    | some d' =>
      rw [q] at hf k
      obtain ⟨u', v', rfl, rv, rp⟩ := hf
      exact ⟨v', rv, k v' H2 PP (show Rp Y.K _ v' d' from o.1 ▸ rp.mono fun _ _ e _ => by cases e)⟩
  | _ => cases e4
end
end Ty
set_option autoImplicit false
set_option maxHeartbeats 200000
/-! T5a: what is walked. -/
namespace Ty
open PySem.Spec PyProof.Rows L2 PySem
/-- the iterator J gives xs, from H0 on, while what is not changed any more stays -/
def Gives (K : PySem.W.Frag) (O : Addr → Prop) (H0 : Hp) (J : L2.It) (xs : List D) : Prop :=
  ∀ (H : Hp) (O' : Addr → Prop), Keep (cut H0 O) (cut H O') → (∀ a, O' a → H a ≠ none) →
    (∀ i, i < xs.length → J.go i H) ∧ J.stop xs.length H ∧
    ∀ i x H', i < xs.length → J.yld i H x H' → ∃ d, xs[i]? = some d ∧ Rp K (cut H' O') x d ∧ (H' = H ∨ ∃ T ys, H T = none ∧ H' = upd H T (.tup ys))
def tI (Y : Yc) (m : M (List D)) : TI := fun σ H R => ∃ ρ, RepE Y ρ σ H ∧ match m ρ with
  | .ok xs ρ' => ∀ J H', Post Y ρ ρ' σ H H' → Gives Y.K (Ex_ Y ρ' σ) H' J xs → R J H'
  | .bad => False
def eI (X : Cx) (Z : Zc) (tg iter : Expr) (m : M (List D)) : Prop := ∀ Y, Of Z Y → PI X tg iter (tI Y m)
section
variable {X : Cx} {Z : Zc} {Y : Yc} {Φ : Fns} {P : Pars} {e e1 e2 e3 tg : Expr} {es rest : List Expr} {pos p p2 p3 tpos : Pos} {t t1 t2 t3 : Ex} {ts : Exs} {σ : L2.St} {H : Hp} {K : PySem.W.Frag} {O : Addr → Prop}
theorem tI_of {m : M (List D)} {R : L2.It → Hp → Prop} (h : tI Y m σ H R) : ∃ ρ xs ρ', RepE Y ρ σ H ∧ m ρ = .ok xs ρ' ∧ ∀ J H', Post Y ρ ρ' σ H H' → Gives Y.K (Ex_ Y ρ' σ) H' J xs → R J H' := by
  obtain ⟨ρ, R, h⟩ := h
  cases e : m ρ with
  | ok r ρ' => rw [e] at h; exact ⟨ρ, r, ρ', R, e, h⟩
  | bad => rw [e] at h; exact h.elim
theorem lft_ok {α : Type} {o : Option α} {a : α} {ρ ρ' : Env} (h : lft o ρ = .ok a ρ') : o = some a ∧ ρ' = ρ := by
  unfold lft at h
  split at h
  · cases h; exact ⟨rfl, rfl⟩
  · cases h
theorem sqL_same {H0 H : Hp} {O' : Addr → Prop} {a : Addr} {vs : List V} (k : Keep (cut H0 O) (cut H O')) (h : SqL K (cut H0 O) a vs) : SqL K H a vs := cut_keep.sqL (k.sqL h)
theorem sqT_same {H0 H : Hp} {O' : Addr → Prop} {a : Addr} {vs : List V} (k : Keep (cut H0 O) (cut H O')) (h : SqT K (cut H0 O) a vs) : SqT K H a vs := cut_keep.sqT (k.sqT h)
theorem gives_list {H0 : Hp} {a : Addr} {vs : List V} {ds : List D} (h : SqL K (cut H0 O) a vs) (r : RpAll K (cut H0 O) vs ds) : Gives K O H0 (Itl K a) ds := by
  intro H O' k hO
  have s1 := sqL_same k h
  refine ⟨fun i hi => ?_, ⟨vs, s1, Nat.le_of_eq r.length⟩, fun i x H' hi y => ?_⟩
  · obtain ⟨d, hd⟩ : ∃ d, ds[i]? = some d := ⟨_, List.getElem?_eq_getElem hi⟩
    obtain ⟨v, hv, _⟩ := r.get hd
    exact ⟨vs, v, s1, hv⟩
  · obtain ⟨rfl, hy⟩ := y
    obtain ⟨d, hd, rp⟩ := r.at (hy vs s1)
    exact ⟨d, hd, rp.mono k, .inl rfl⟩
theorem gives_tup {H0 : Hp} {a : Addr} {vs : List V} {ds : List D} (h : SqT K (cut H0 O) a vs) (r : RpAll K (cut H0 O) vs ds) : Gives K O H0 (Itt K a) ds := by
  intro H O' k hO
  have s1 := sqT_same k h
  refine ⟨fun i hi => ?_, ⟨vs, s1, Nat.le_of_eq r.length⟩, fun i x H' hi y => ?_⟩
  · obtain ⟨d, hd⟩ : ∃ d, ds[i]? = some d := ⟨_, List.getElem?_eq_getElem hi⟩
    obtain ⟨v, hv, _⟩ := r.get hd
    exact ⟨vs, v, s1, hv⟩
  · obtain ⟨rfl, hy⟩ := y
    obtain ⟨d, hd, rp⟩ := r.at (hy vs s1)
    exact ⟨d, hd, rp.mono k, .inl rfl⟩
theorem range_len (lo : Int) (n : Nat) : (rangeD lo n).length = n := by simp [rangeD]
theorem range_get {lo : Int} {n i : Nat} (h : i < n) : (rangeD lo n)[i]? = some (.int (lo + i)) := by
  simp [rangeD, List.getElem?_range h]
theorem gives_range {H0 : Hp} {lo : Int} {n : Nat} : Gives K O H0 (Itr lo n) (rangeD lo n) := by
  intro H O' k hO
  rw [range_len]
  refine ⟨fun i hi => hi, Nat.le_refl n, fun i x H' hi y => ?_⟩
  obtain ⟨rfl, rfl⟩ := y
  exact ⟨_, range_get hi, .int _, .inl rfl⟩
theorem gives_str {H0 : Hp} {x : Str} : Gives K O H0 (Its x) (signsD x) := by
  intro H O' k hO
  have hl : (signsD x).length = x.cps.size := by simp [signsD]
  rw [hl]
  refine ⟨fun i hi => hi, Nat.le_refl _, fun i v H' hi y => ?_⟩
  obtain ⟨rfl, c, hc, rfl⟩ := y
  refine ⟨.str ⟨#[c]⟩, ?_, .str _, .inl rfl⟩
  have hc' : x.cps.toList[i]? = some c := by rw [Array.getElem?_toList]; exact hc
  simp only [signsD, List.getElem?_map, hc']
  rfl
/-- a new pair -/
theorem rp_pair {H : Hp} {O' : Addr → Prop} {T : Addr} {xs : List V} {ds : List D} (hT : H T = none) (hO : ∀ a, O' a → H a ≠ none) (r : RpAll K (cut H O') xs ds) : Rp K (cut (upd H T (.tup xs)) O') (.ref T) (.tuple ds) := by
  have k : Keep (cut H O') (cut (upd H T (.tup xs)) O') := fun a o e _ => by
    obtain ⟨e1, e2⟩ := cut_some.mp e
    exact cut_some.mpr ⟨same_new hT a o e1, e2⟩
  exact .tup (.inl (.inl (cut_some.mpr ⟨upd_same, fun z => hO T z hT⟩))) (r.mono k)
theorem enum_len : ∀ (n : Nat) (xs : List D), (enumD n xs).length = xs.length
  | _, [] => rfl
  | n, x :: xs => by simp [enumD, enum_len (n + 1) xs]
theorem enum_get : ∀ {n i : Nat} {xs : List D} {d : D}, xs[i]? = some d → (enumD n xs)[i]? = some (.tuple [.int ((n + i : Nat) : Int), d])
  | _, _, [], _, h => by simp at h
  | n, 0, x :: xs, d, h => by
    simp at h
    subst h
    simp [enumD]
  | n, i + 1, x :: xs, d, h => by
    have z := enum_get (n := n + 1) (i := i) (xs := xs) (d := d) (by simpa using h)
    simp only [enumD, List.getElem?_cons_succ]
    rw [z]
    congr 5
    omega
theorem gives_enum {H0 : Hp} {a : Addr} {vs : List V} {ds : List D} (h : SqL K (cut H0 O) a vs) (r : RpAll K (cut H0 O) vs ds) : Gives K O H0 (Ite K a) (enumD 0 ds) := by
  intro H O' k hO
  have s1 := sqL_same k h
  rw [enum_len]
  refine ⟨fun i hi => ?_, ⟨vs, s1, Nat.le_of_eq r.length⟩, fun i x H' hi y => ?_⟩
  · obtain ⟨d, hd⟩ : ∃ d, ds[i]? = some d := ⟨_, List.getElem?_eq_getElem hi⟩
    obtain ⟨v, hv, _⟩ := r.get hd
    exact ⟨vs, v, s1, hv⟩
  · obtain ⟨T, z, rfl, hT, rfl, hy⟩ := y
    obtain ⟨d, hd, rp⟩ := r.at (hy vs s1)
    have e := enum_get (n := 0) hd
    rw [Nat.zero_add] at e
    exact ⟨_, e, rp_pair hT hO (.cons (.int _) (.cons (rp.mono k) .nil)), .inr ⟨T, _, hT, rfl⟩⟩
theorem zip_len : ∀ xs ys : List D, (zipD xs ys).length = min xs.length ys.length
  | [], ys => by simp [zipD]
  | x :: xs, [] => by simp [zipD]
  | x :: xs, y :: ys => by simp [zipD, zip_len xs ys]
theorem zip_get : ∀ {i : Nat} {xs ys : List D} {d e : D}, xs[i]? = some d → ys[i]? = some e → (zipD xs ys)[i]? = some (.tuple [d, e])
  | _, [], _, _, _, h, _ => by simp at h
  | _, _ :: _, [], _, _, _, h => by simp at h
  | 0, x :: xs, y :: ys, d, e, h, h' => by
    simp at h h'
    subst h h'
    simp [zipD]
  | i + 1, x :: xs, y :: ys, d, e, h, h' => by
    simp only [zipD, List.getElem?_cons_succ]
    exact zip_get (by simpa using h) (by simpa using h')
theorem gives_zip {H0 : Hp} {a b : Addr} {vs ws : List V} {ds es : List D} (h : SqL K (cut H0 O) a vs) (r : RpAll K (cut H0 O) vs ds) (h' : SqL K (cut H0 O) b ws) (r' : RpAll K (cut H0 O) ws es) : Gives K O H0 (Itz K a b) (zipD ds es) := by
  intro H O' k hO
  have s1 := sqL_same k h
  have s2 := sqL_same k h'
  rw [zip_len]
  refine ⟨fun i hi => ?_, ⟨vs, ws, s1, s2, by rw [r.length, r'.length]; omega⟩, fun i x H' hi y => ?_⟩
  · obtain ⟨d, hd⟩ : ∃ d, ds[i]? = some d := ⟨_, List.getElem?_eq_getElem (by omega)⟩
    obtain ⟨e, he⟩ : ∃ d, es[i]? = some d := ⟨_, List.getElem?_eq_getElem (by omega)⟩
    obtain ⟨v, hv, _⟩ := r.get hd
    obtain ⟨w, hw, _⟩ := r'.get he
    exact ⟨vs, ws, v, w, s1, s2, hv, hw⟩
  · obtain ⟨T, z, w, rfl, hT, rfl, hy, hy'⟩ := y
    obtain ⟨d, hd, rp⟩ := r.at (hy vs s1)
    obtain ⟨e, he, rp'⟩ := r'.at (hy' ws s2)
    exact ⟨_, zip_get hd he, rp_pair hT hO (.cons (rp.mono k) (.cons (rp'.mono k) .nil)), .inr ⟨T, _, hT, rfl⟩⟩
theorem gives_zipT {H0 : Hp} {a b : Addr} {vs ws : List V} {ds es : List D} (h : SqT K (cut H0 O) a vs) (r : RpAll K (cut H0 O) vs ds) (h' : SqT K (cut H0 O) b ws) (r' : RpAll K (cut H0 O) ws es) : Gives K O H0 (RZ.ItzT K a b) (zipD ds es) := by
  intro H O' k hO
  have s1 := sqT_same k h
  have s2 := sqT_same k h'
  rw [zip_len]
  refine ⟨fun i hi => ?_, ⟨vs, ws, s1, s2, by rw [r.length, r'.length]; omega⟩, fun i x H' hi y => ?_⟩
  · obtain ⟨d, hd⟩ : ∃ d, ds[i]? = some d := ⟨_, List.getElem?_eq_getElem (by omega)⟩
    obtain ⟨e, he⟩ : ∃ d, es[i]? = some d := ⟨_, List.getElem?_eq_getElem (by omega)⟩
    obtain ⟨v, hv, _⟩ := r.get hd
    obtain ⟨w, hw, _⟩ := r'.get he
    exact ⟨vs, ws, v, w, s1, s2, hv, hw⟩
  · obtain ⟨T, z, w, rfl, hT, rfl, hy, hy'⟩ := y
    obtain ⟨d, hd, rp⟩ := r.at (hy vs s1)
    obtain ⟨e, he, rp'⟩ := r'.at (hy' ws s2)
    exact ⟨_, zip_get hd he, rp_pair hT hO (.cons (rp.mono k) (.cons (rp'.mono k) .nil)), .inr ⟨T, _, hT, rfl⟩⟩
/-! ### the rules -/
theorem i_seq (c : Cd X Z) (h : eM X Z e (ev Φ P t)) : eI X Z tg e (evI Φ P (.seq t)) := fun Y o => ⟨fun pins s σ H R I h' => by
  rw [evI] at h'
  obtain ⟨ρ, xs, ρ', RR, e, k⟩ := tI_of h'
  obtain ⟨⟨d, nw⟩, ρ1, e1, e2⟩ := bnd_ok e
  obtain ⟨e3, rfl⟩ := lft_ok e2
  cases d <;> simp only [itemsOf, Option.some.injEq, reduceCtorEq] at e3
  · subst e3
    refine (pi_list (h Y o)).run pins s σ H R I (tM_mk RR e1 fun v H1 P1 r1 => ?_)
    cases r1.rp with
    | lst hs r =>
      rw [← c.k o]
      exact ⟨_, rfl, ⟨_, cut_keep.sqL hs⟩, k _ H1 P1 (gives_list hs r)⟩
  · subst e3
    refine (pi_tup (h Y o)).run pins s σ H R I (tM_mk RR e1 fun v H1 P1 r1 => ?_)
    cases r1.rp with
    | tup hs r =>
      rw [← c.k o]
      exact ⟨_, rfl, ⟨_, cut_keep.sqT hs⟩, k _ H1 P1 (gives_tup hs r)⟩⟩
theorem i_str (h : eM X Z e (ev Φ P t)) : eI X Z tg e (evI Φ P (.str t)) := fun Y o => ⟨fun pins s σ H R I h' => by
  rw [evI] at h'
  obtain ⟨ρ, xs, ρ', RR, e, k⟩ := tI_of h'
  obtain ⟨⟨d, nw⟩, ρ1, e1, e2⟩ := bnd_ok e
  cases d with
  | str x =>
    cases e2
    refine (pi_str (h Y o)).run pins s σ H R I (tM_mk RR e1 fun v H1 P1 r1 => ?_)
    cases r1.rp
    exact ⟨x, rfl, k _ H1 P1 gives_str⟩
  | _ => cases e2⟩
theorem i_rng1 (h : eM X Z e (ev Φ P t)) (hm : X.mg "range" = none) (hg : Gl X "range" := by rfl) (hs : starEach [e] X.env = [(false, eval e X.env)] := by rfl) : eI X Z tg (.Call (.Name "range" p) [e] [] pos) (evI Φ P (.rng1 t)) := fun Y o => ⟨fun pins s σ H R I h' => by
  rw [evI] at h'
  obtain ⟨ρ, xs, ρ', RR, e, k⟩ := tI_of h'
  obtain ⟨⟨d, nw⟩, ρ1, e1, e2⟩ := bnd_ok e
  cases d with
  | int j =>
    replace e2 : (if smallIx j = true then ret (rangeD 0 j.toNat) else fun _ => .bad) ρ1 = .ok xs ρ' := e2
    cases q : smallIx j with
    | true =>
      rw [q, if_pos rfl] at e2
      cases e2
      unfold smallIx at q
      have q := of_decide_eq_true q
      refine (pi_range1 hg hm (pa_cons (h Y o) pa_nil (by rw [hs]; rfl)) hs).run pins s σ H R I (tM_mk RR e1 fun v H1 P1 r1 => ?_)
      cases r1.rp
      exact ⟨j, rfl, by omega, by omega, k _ H1 P1 gives_range⟩
    | false =>
      rw [q, if_neg (by simp)] at e2
      cases e2
  | _ => cases e2⟩
theorem i_rng2 (h1 : eM X Z e1 (ev Φ P t1)) (h2 : eM X Z e2 (ev Φ P t2)) (hm : X.mg "range" = none) (hg : Gl X "range" := by rfl) (hs : starEach [e1, e2] X.env = [(false, eval e1 X.env), (false, eval e2 X.env)] := by rfl) (hs2 : starEach [e2] X.env = [(false, eval e2 X.env)] := by rfl) :
    eI X Z tg (.Call (.Name "range" p) [e1, e2] [] pos) (evI Φ P (.rng2 t1 t2)) := fun Y o => ⟨fun pins s σ H R I h' => by
  rw [evI] at h'
  obtain ⟨ρ, xs, ρ', RR, e, k⟩ := tI_of h'
  obtain ⟨⟨d, nw⟩, ρ1, e1, e2⟩ := bnd_ok e
  obtain ⟨⟨d2, nw2⟩, ρ2, e3, e4⟩ := bnd_ok e2
  cases d with
  | int i =>
    cases d2 with
    | int j =>
      replace e4 : (if (smallIx i && smallIx j) = true then ret (rangeD i (j - i).toNat) else fun _ => .bad) ρ2 = .ok xs ρ' := e4
      cases q : smallIx i && smallIx j with
      | true =>
        rw [q, if_pos rfl] at e4
        cases e4
        rw [Bool.and_eq_true] at q
        obtain ⟨q1, q2⟩ := q
        unfold smallIx at q1 q2
        have q1 := of_decide_eq_true q1
        have q2 := of_decide_eq_true q2
        refine (pi_range2 hg hm (pa_cons (h1 Y o) (pa_cons (h2 Y o) pa_nil (by rw [hs2]; rfl)) (by rw [hs, hs2])) hs hs2).run pins s σ H R I (tM_mk RR e1 fun v H1 P1 r1 => tM_mk P1.rep e3 fun u H2 P2 r2 => ?_)
        cases r1.rp
        cases r2.rp
        exact ⟨i, j, rfl, ⟨by omega, by omega, by omega, by omega⟩, k _ H2 (P1.trans P2) gives_range⟩
      | false =>
        rw [q, if_neg (by simp)] at e4
        cases e4
    | _ => cases e4
  | _ => cases e4⟩
theorem i_enum {elts : List Expr} {kk : Nat} (c : Cd X Z) (h : eM X Z e (ev Φ P t)) (hm : X.mg "enumerate" = none) (hg : Gl X "enumerate" := by rfl) (hs : starEach [e] X.env = [(false, eval e X.env)] := by rfl) :
    eI X Z (.Tuple elts kk tpos) (.Call (.Name "enumerate" p) [e] [] pos) (evI Φ P (.enum t)) := fun Y o => ⟨fun pins s σ H R I h' => by
  rw [evI] at h'
  obtain ⟨ρ, xs, ρ', RR, e, k⟩ := tI_of h'
  obtain ⟨⟨d, nw⟩, ρ1, e1, e2⟩ := bnd_ok e
  obtain ⟨e3, rfl⟩ := lft_ok e2
  cases d <;> simp only [enumOf, Option.some.injEq, reduceCtorEq] at e3
  subst e3
  refine (pi_enum hg hm (pa_cons (h Y o) pa_nil (by rw [hs]; rfl)) hs).run pins s σ H R I (tM_mk RR e1 fun v H1 P1 r1 => ?_)
  cases r1.rp with
  | lst hs' r =>
    rw [← c.k o]
    exact ⟨_, _, rfl, cut_keep.sqL hs', k _ H1 P1 (gives_enum hs' r)⟩⟩
theorem i_zip {elts : List Expr} {kk : Nat} (c : Cd X Z) (h1 : eM X Z e1 (ev Φ P t1)) (h2 : eM X Z e2 (ev Φ P t2)) (hm : X.mg "zip" = none) (hg : Gl X "zip" := by rfl) (hs : starEach [e1, e2] X.env = (false, eval e1 X.env) :: starEach [e2] X.env := by rfl)
    (hs2 : starEach (e2 :: []) X.env = (false, eval e2 X.env) :: starEach [] X.env := by rfl) (hpl : (backTo pos (starEach [e2] X.env)).any (·.1) = false := by rfl) :
    eI X Z (.Tuple elts kk tpos) (.Call (.Name "zip" p) [e1, e2] [] pos) (evI Φ P (.zip t1 t2)) := fun Y o => ⟨fun pins s σ H R I h' => by
  rw [evI] at h'
  obtain ⟨ρ, xs, ρ', RR, e, k⟩ := tI_of h'
  obtain ⟨⟨d, nw⟩, ρ1, e1, e2⟩ := bnd_ok e
  obtain ⟨⟨d2, nw2⟩, ρ2, e3, e4⟩ := bnd_ok e2
  obtain ⟨e5, rfl⟩ := lft_ok e4
  refine (RZ.pi_zipA hg hm (pa_cons (h1 Y o) (pa_cons (h2 Y o) pa_nil hs2) hs) hs hpl).run pins s σ H R I (tM_mk RR e1 fun v H1 P1 r1 => tM_mk P1.rep e3 fun u H2 P2 r2 => ?_)
  have a1 := P2.rp r1.rp
  have a2 := r2.rp
  rw [← c.k o]
  cases d <;> cases d2 <;> simp only [zipOf, Option.some.injEq, reduceCtorEq] at e5
  · subst e5
    cases a1 with
    | lst hs r =>
      cases a2 with
      | lst hs' r' => exact ⟨_, _, _, _, rfl, .inl ⟨cut_keep.sqL hs, cut_keep.sqL hs', k _ H2 (P1.trans P2) (gives_zip hs r hs' r')⟩⟩
  · subst e5
    cases a1 with
    | tup hs r =>
      cases a2 with
      | tup hs' r' => exact ⟨_, _, _, _, rfl, .inr ⟨cut_keep.sqT hs, cut_keep.sqT hs', k _ H2 (P1.trans P2) (gives_zipT hs r hs' r')⟩⟩⟩
end
end Ty
set_option autoImplicit false
set_option maxHeartbeats 200000
/-! T5b: stores into names; blocks. -/
namespace Ty
open PySem.Spec PyProof.Rows L2 PySem
structure PostS (Y : Yc) (ρ ρ' : Env) (σ σ' : L2.St) (H H' : Hp) : Prop where
  rep : RepE Y ρ' σ' H'
  frm : Fr (OwnAt ρ σ) H H'
  sub : ∀ a, OwnAt ρ' σ' a → OwnAt ρ σ a ∨ H a = none
  par : Lent ρ ρ'
  pos : ∀ (i : Nat) (d : D), ρ[i]? = some (some (.own true d)) → σ'[i]? = σ[i]?
section
variable {Y : Yc} {ρ ρ' ρ'' : Env} {σ σ' σ'' : L2.St} {H H' H'' : Hp}
theorem Fr.none {W : Addr → Prop} (f : Fr W H H') {a : Addr} (h : H' a = none) : H a = none := by
  cases q : H a with
  | none => rfl
  | some o => exact absurd h (f.some a (by rw [q]; exact fun z => by cases z))
theorem PostS.refl (R : RepE Y ρ σ H) : PostS Y ρ ρ σ σ H H := ⟨R, .refl, fun _ h => .inl h, .refl ρ, fun _ _ _ => rfl⟩
theorem Post.s (P : Post Y ρ ρ' σ H H') : PostS Y ρ ρ' σ σ H H' := ⟨P.rep, P.frm, fun a h => .inl (P.sub a h), P.par, fun _ _ _ => rfl⟩
theorem PostS.trans (a : PostS Y ρ ρ' σ σ' H H') (b : PostS Y ρ' ρ'' σ' σ'' H' H'') : PostS Y ρ ρ'' σ σ'' H H'' :=
  ⟨b.rep, a.frm.trans b.frm (fun _ h => h) a.sub, fun x h => (b.sub x h).elim (a.sub x) fun z => .inr (a.frm.none z), a.par.trans b.par, fun i d h => let ⟨d', h'⟩ := a.par i d h; (b.pos i d' h').trans (a.pos i d h)⟩
theorem PostS.keep (a : PostS Y ρ ρ' σ σ' H H') : Keep (cut H (Ex_ Y ρ σ)) (cut H' (Ex_ Y ρ' σ')) :=
  a.frm.cut (fun _ h => .inr h) fun x h => h.elim (fun z => .inl (.inl z)) fun z => (a.sub x z).elim (fun q => .inl (.inr q)) .inr
theorem PostS.rp (a : PostS Y ρ ρ' σ σ' H H') {v : V} {d : D} (h : Rp Y.K (cut H (Ex_ Y ρ σ)) v d) : Rp Y.K (cut H' (Ex_ Y ρ' σ')) v d := h.mono a.keep
theorem get_set_eq {α : Type} {l : List α} {i : Nat} {a b : α} (h : (l.set i a)[i]? = some b) : b = a := by
  by_cases hi : i < l.length
  · rw [List.getElem?_set_self hi] at h
    exact (Option.some.inj h).symm
  · rw [List.getElem?_eq_none (by simpa using hi)] at h
    cases h
theorem setVar_ok {i : Nat} {r : Ty.R} (h : setVar i r ρ = .ok () ρ') : i < ρ.length ∧ ρ' = ρ.set i (some (slOf r)) ∧ ∀ d, ρ[i]? ≠ some (some (.own true d)) := by
  unfold setVar at h
  split at h
  · cases h
  · rename_i o s hn hs
    cases h
    have hi : i < ρ.length := by
      rcases Nat.lt_or_ge i ρ.length with z | z
      · exact z
      · rw [List.getElem?_eq_none z] at hs; cases hs
    exact ⟨hi, rfl, fun d e => by rw [hs] at e; cases e; exact hn _ rfl⟩
  · cases h
/-- a value comes into a name: the lists that names hold -/
theorem own_set {i : Nat} {s : Sl} {v : V} {a : Addr} (h : OwnAt (ρ.set i (some s)) (σ.set i (some v)) a) : OwnAt ρ σ a ∨ ((∃ b d, s = .own b d) ∧ v = .ref a) := by
  obtain ⟨j, b, d, h1, h2⟩ := h
  by_cases e : i = j
  · subst e
    have z1 := get_set_eq h1
    have z2 := get_set_eq h2
    cases z1; cases z2
    exact .inr ⟨⟨b, d, rfl⟩, rfl⟩
  · rw [List.getElem?_set_ne e] at h1 h2
    exact .inl ⟨j, b, d, h1, h2⟩
theorem RepE.set {i : Nat} {r : Ty.R} {v : V} {H0 : Hp} (R : RepE Y ρ σ H) (hv : ResV Y ρ σ H0 H r v) (hT : ∀ a, Y.T a → H0 a ≠ none) (e : setVar i r ρ = .ok () ρ') :
    RepE Y ρ' (σ.set i (some v)) H ∧ ∀ a, OwnAt ρ' (σ.set i (some v)) a → OwnAt ρ σ a ∨ H0 a = none := by
  obtain ⟨hi, rfl, hno⟩ := setVar_ok e
  obtain ⟨d, nw⟩ := r
  have hi' : i < σ.length := by rw [← R.len]; exact hi
  cases nw with
  | false =>
    have hs : slOf (d, false) = .fro d := rfl
    rw [hs]
    have sub : ∀ a, OwnAt (ρ.set i (some (.fro d))) (σ.set i (some v)) a → OwnAt ρ σ a := fun a z => (own_set z).elim (fun q => q) fun ⟨⟨b, d', q⟩, _⟩ => by cases q
    have k : Keep (cut H (Ex_ Y ρ σ)) (cut H (Ex_ Y (ρ.set i (some (.fro d))) (σ.set i (some v)))) := cut_sub fun a z => z.elim .inl fun q => .inr (sub a q)
    refine ⟨⟨by simpa using R.len, fun j d' e' => ?_, fun j b d' e' => ?_, fun j j' b b' d1 d2 x e1 e2 e3 e4 => ?_, R.sub, R.trk, R.tbs⟩, fun a z => .inl (sub a z)⟩
    · by_cases q : i = j
      · subst q
        have z := get_set_eq e'
        cases z
        exact ⟨v, List.getElem?_set_self hi', (show Rp Y.K _ v d from hv).mono k⟩
      · rw [List.getElem?_set_ne q] at e' ⊢
        obtain ⟨u, h1, h2⟩ := R.fro j d' e'
        exact ⟨u, h1, h2.mono k⟩
    · by_cases q : i = j
      · subst q
        have z := get_set_eq e'
        cases z
      · rw [List.getElem?_set_ne q] at e' ⊢
        obtain ⟨x, h1, h2, h3⟩ := R.own j b d' e'
        exact ⟨x, h1, h2.mono (fun _ h _ => h) k, h3⟩
    · have q1 : i ≠ j := fun q => by subst q; have z := get_set_eq e1; cases z
      have q2 : i ≠ j' := fun q => by subst q; have z := get_set_eq e2; cases z
      rw [List.getElem?_set_ne q1] at e1 e3
      rw [List.getElem?_set_ne q2] at e2 e4
      exact R.inj j j' b b' d1 d2 x e1 e2 e3 e4
  | true =>
    obtain ⟨p, xs, ds, rfl, rfl, h0, h1, h2, h3, R2⟩ := hv
    have hs : slOf (.list ds, true) = .own false (.list ds) := rfl
    rw [hs]
    have nT : ¬ Y.T p := fun z => hT p z h0
    have sub : ∀ a, OwnAt (ρ.set i (some (.own false (.list ds)))) (σ.set i (some (.ref p))) a → OwnAt ρ σ a ∨ a = p := fun a z => (own_set z).elim .inl fun ⟨_, q⟩ => .inr (by cases q; rfl)
    have subE : ∀ a, Ex_ Y (ρ.set i (some (.own false (.list ds)))) (σ.set i (some (.ref p))) a → Ex_ (Y.plus p) ρ σ a := fun a z => plus_ex.mpr (z.elim (fun q => .inl (.inl q)) fun q => (sub a q).elim (fun q' => .inl (.inr q')) .inr)
    have k : Keep (cut H (Ex_ (Y.plus p) ρ σ)) (cut H (Ex_ Y (ρ.set i (some (.own false (.list ds)))) (σ.set i (some (.ref p))))) := cut_sub subE
    have ne : ∀ (j : Nat) (b : Bool) (d' : D) (a : Addr), ρ[j]? = some (some (.own b d')) → σ[j]? = some (some (.ref a)) → a ≠ p := fun j b d' a e1 e2 z => h2 (.inr ⟨j, b, d', e1, z ▸ e2⟩)
    refine ⟨⟨by simpa using R.len, fun j d' e' => ?_, fun j b d' e' => ?_, fun j j' b b' d1 d2 x e1 e2 e3 e4 => ?_, R.sub, R.trk, R.tbs⟩, fun a z => (sub a z).elim .inl fun q => .inr (q ▸ h0)⟩
    · by_cases q : i = j
      · subst q
        have z := get_set_eq e'
        cases z
      · rw [List.getElem?_set_ne q] at e' ⊢
        obtain ⟨u, z1, z2⟩ := R2.fro j d' e'
        exact ⟨u, z1, z2.mono k⟩
    · by_cases q : i = j
      · subst q
        have z := get_set_eq e'
        cases z
        exact ⟨p, List.getElem?_set_self hi', .inl ⟨xs, ds, rfl, h1, h3.mono k⟩, (fun z => by cases z), fun _ => nT⟩
      · rw [List.getElem?_set_ne q] at e' ⊢
        obtain ⟨x, z1, z2, _⟩ := R2.own j b d' e'
        obtain ⟨x', y1, _, y3⟩ := R.own j b d' e'
        rw [z1] at y1
        cases y1
        exact ⟨x, z1, z2.mono (fun _ h _ => h) k, y3⟩
    · by_cases q1 : i = j
      · by_cases q2 : i = j'
        · exact q1.symm.trans q2
        · subst q1
          have z := get_set_eq e3
          cases z
          rw [List.getElem?_set_ne q2] at e2 e4
          exact absurd rfl (ne j' b' d2 p e2 e4)
      · by_cases q2 : i = j'
        · subst q2
          have z := get_set_eq e4
          cases z
          rw [List.getElem?_set_ne q1] at e1 e3
          exact absurd rfl (ne j b d1 p e1 e3)
        · rw [List.getElem?_set_ne q1] at e1 e3
          rw [List.getElem?_set_ne q2] at e2 e4
          exact R.inj j j' b b' d1 d2 x e1 e2 e3 e4
/-- a list that belongs to nobody is left alone -/
theorem RepE.minus {p : Addr} (R : RepE (Y.plus p) ρ σ H) (n : ¬ OwnAt ρ σ p) (hs : ∀ a, Y.O a → Y.T a) : RepE Y ρ σ H := by
  have k : Keep (cut H (Ex_ (Y.plus p) ρ σ)) (cut H (Ex_ Y ρ σ)) := cut_sub fun a z => plus_ex.mpr (.inl z)
  refine ⟨R.len, fun i d e => ?_, fun i b d e => ?_, R.inj, hs, fun a z => R.trk a (.inl z), R.tbs⟩
  · obtain ⟨v, h1, h2⟩ := R.fro i d e
    exact ⟨v, h1, h2.mono k⟩
  · obtain ⟨a, h1, h2, h3, h4⟩ := R.own i b d e
    exact ⟨a, h1, h2.mono (fun _ h _ => h) k, fun z => (h3 z).elim (fun q => q) fun q => absurd ⟨i, b, d, e, q ▸ h1⟩ n, fun z q => h4 z (.inl q)⟩

/-! ### blocks -/
theorem wipeE_len (ρ : Env) : ∀ vs : List Nat, (wipeE ρ vs).length = ρ.length
  | [] => rfl
  | v :: vs => by unfold wipeE; rw [List.length_set, wipeE_len ρ vs]
theorem wipeE_get {i : Nat} {s : Sl} : ∀ {vs : List Nat}, (wipeE ρ vs)[i]? = some (some s) → ρ[i]? = some (some s) ∧ i ∉ vs
  | [], h => ⟨h, by simp⟩
  | v :: vs, h => by
    unfold wipeE at h
    by_cases e : v = i
    · subst e
      have z := get_set_eq h
      cases z
    · rw [List.getElem?_set_ne e] at h
      obtain ⟨h1, h2⟩ := wipeE_get h
      exact ⟨h1, by simp [h2, Ne.symm e]⟩
theorem wipe_get {i : Nat} {vs : List Nat} (h : i ∉ vs) : (wipe σ vs)[i]? = σ[i]? := by
  induction vs with
  | nil => rfl
  | cons v vs ih =>
    simp only [List.mem_cons, not_or] at h
    unfold wipe
    rw [List.getElem?_set_ne (Ne.symm h.1)]
    exact ih h.2
theorem noOwn_get {vs : List Nat} (h : noOwn ρ vs = true) {i : Nat} (hi : i ∈ vs) : ∀ b d, ρ[i]? ≠ some (some (.own b d)) := fun b d e => by
  unfold noOwn at h
  have z := List.all_eq_true.mp h i hi
  rw [e] at z
  simp at z
theorem wipe_get' {i : Nat} {x : V} {vs : List Nat} (h : (wipe σ vs)[i]? = some (some x)) : σ[i]? = some (some x) ∧ i ∉ vs := wipe_some h
theorem own_wipe {vs : List Nat} (h : noOwn ρ vs = true) {a : Addr} : OwnAt (wipeE ρ vs) (wipe σ vs) a ↔ OwnAt ρ σ a := by
  constructor
  · rintro ⟨i, b, d, h1, h2⟩
    exact ⟨i, b, d, (wipeE_get h1).1, (wipe_get' h2).1⟩
  · rintro ⟨i, b, d, h1, h2⟩
    have ni : i ∉ vs := fun z => noOwn_get h z b d h1
    refine ⟨i, b, d, ?_, by rw [wipe_get ni]; exact h2⟩
    clear h
    induction vs with
    | nil => exact h1
    | cons v vs ih =>
      simp only [List.mem_cons, not_or] at ni
      unfold wipeE
      rw [List.getElem?_set_ne (Ne.symm ni.1)]
      exact ih ni.2
theorem RepE.wipe {vs : List Nat} (R : RepE Y ρ σ H) (h : noOwn ρ vs = true) : RepE Y (wipeE ρ vs) (L2.wipe σ vs) H := by
  have k : Keep (cut H (Ex_ Y ρ σ)) (cut H (Ex_ Y (wipeE ρ vs) (L2.wipe σ vs))) := cut_sub fun a z => z.elim .inl fun q => .inr ((own_wipe h).mp q)
  refine ⟨by rw [wipeE_len, wipe_length]; exact R.len, fun i d e => ?_, fun i b d e => ?_, fun i j b b' d d' a e1 e2 e3 e4 => ?_, R.sub, R.trk, R.tbs⟩
  · obtain ⟨e1, ni⟩ := wipeE_get e
    obtain ⟨v, h1, h2⟩ := R.fro i d e1
    exact ⟨v, by rw [wipe_get ni]; exact h1, h2.mono k⟩
  · obtain ⟨e1, ni⟩ := wipeE_get e
    obtain ⟨v, h1, h2, h3⟩ := R.own i b d e1
    exact ⟨v, by rw [wipe_get ni]; exact h1, h2.mono (fun _ h _ => h) k, h3⟩
  · exact R.inj i j b b' d d' a (wipeE_get e1).1 (wipeE_get e2).1 (wipe_get' e3).1 (wipe_get' e4).1
theorem lent_wipe {vs : List Nat} (h : noOwn ρ vs = true) : Lent ρ (wipeE ρ vs) := fun i d e => by
  have ni : i ∉ vs := fun z => noOwn_get h z true d e
  refine ⟨d, ?_⟩
  clear h
  induction vs with
  | nil => exact e
  | cons v vs ih =>
    simp only [List.mem_cons, not_or] at ni
    unfold wipeE
    rw [List.getElem?_set_ne (Ne.symm ni.1)]
    exact ih ni.2
theorem lent_var {i : Nat} {r : Ty.R} (e : setVar i r ρ = .ok () ρ') : Lent ρ ρ' := fun j d z => by
  obtain ⟨_, rfl, hno⟩ := setVar_ok e
  have ne : i ≠ j := fun q => by subst q; exact hno d z
  exact ⟨d, by rw [List.getElem?_set_ne ne]; exact z⟩
theorem pos_var {i : Nat} {r : Ty.R} {v : V} (e : setVar i r ρ = .ok () ρ') : ∀ (j : Nat) (d : D), ρ[j]? = some (some (.own true d)) → (σ.set i (some v))[j]? = σ[j]? := fun j d z => by
  obtain ⟨_, rfl, hno⟩ := setVar_ok e
  have ne : i ≠ j := fun q => by subst q; exact hno d z
  rw [List.getElem?_set_ne ne]
theorem PostS.wipe {vs : List Nat} (R : RepE Y ρ σ H) (h : noOwn ρ vs = true) : PostS Y ρ (wipeE ρ vs) σ (L2.wipe σ vs) H H := ⟨R.wipe h, .refl, fun a z => .inl ((own_wipe h).mp z), lent_wipe h, fun i d e => wipe_get fun z => noOwn_get h z true d e⟩
end
end Ty
set_option autoImplicit false
set_option maxHeartbeats 200000
/-! T5c: targets; comprehensions. -/
namespace Ty
open PySem.Spec PyProof.Rows L2 PySem
def tgN : Tg → List Nat
  | .nm i => [i]
  | .tp is => is
def gT (Y : Yc) (tg : Tg) : TG := fun v σ H Q => ∃ ρ d ρ', RepE Y ρ σ H ∧ Rp Y.K (cut H (Ex_ Y ρ σ)) v d ∧ setTg tg (d, false) ρ = .ok () ρ' ∧
  ∀ σ', PostS Y ρ ρ' σ σ' H H → (∀ i, i ∉ tgN tg → σ'[i]? = σ[i]?) → σ'.length = σ.length → Q σ' H
def eG (X : Cx) (Z : Zc) (e : Expr) (t : Tg) : Prop := ∀ Y, Of Z Y → PG X e (gT Y t)
theorem pg_imp {X : Cx} {e : Expr} {t t' : TG} (h : PG X e t) (i : ∀ v σ H Q, t' v σ H Q → t v σ H Q) : PG X e t' := ⟨fun pins s σ H v u Q I r q => h.run pins s σ H v u Q I r (i v σ H Q q)⟩
def gNs : List Nat → TGs
  | [] => gNil
  | i :: is => gCons (gName i) (gNs is)
section
variable {X : Cx} {Z : Zc} {Y : Yc} {Φ : Fns} {P : Pars} {e e1 e2 e3 tg : Expr} {es rest : List Expr} {pos p p2 p3 tpos : Pos} {t t1 t2 t3 : Ex} {ts : Exs} {ρ ρ' : Env} {σ : L2.St} {H H' : Hp}
theorem set_post {i : Nat} {d : D} {v : V} (R : RepE Y ρ σ H) (r : Rp Y.K (cut H (Ex_ Y ρ σ)) v d) (e : setVar i (d, false) ρ = .ok () ρ') : PostS Y ρ ρ' σ (σ.set i (some v)) H H := by
  obtain ⟨h1, h2⟩ := R.set (H0 := H) (r := (d, false)) r R.trk e
  exact ⟨h1, .refl, fun a z => (h2 a z).elim .inl .inr, lent_var e, pos_var e⟩
theorem g_nm {i : Nat} {x : Str} (c : Cd X Z) (hi : X.N[i]? = some x := by rfl) (hx : Loc X.env.scope x := by first | exact Or.inl rfl | exact Or.inr rfl) (hf : X.fn x = true ∨ X.env.scope.names.lookup x = some .local := by first | exact .inl rfl | exact .inr rfl) :
    eG X Z (.Name x p) (.nm i) := fun Y o => pg_imp (pg_name c.nd hi hx hf) fun v σ H Q h => by
  obtain ⟨ρ, d, ρ', R, r, e, q⟩ := h
  refine q _ (set_post R r e) (fun j hj => ?_) (by simp)
  rw [List.getElem?_set_ne]
  simpa [tgN] using Ne.symm (show j ≠ i by simpa [tgN] using hj)
theorem gs_of : ∀ {is : List Nat} {ds : List D} {xs : List V} {ρ ρ' : Env} {σ : L2.St} {Q : L2.St → Hp → Prop}, RepE Y ρ σ H → RpAll Y.K (cut H (Ex_ Y ρ σ)) xs ds → setVars is ds ρ = .ok () ρ' →
    (∀ σ', PostS Y ρ ρ' σ σ' H H → (∀ i, i ∉ is → σ'[i]? = σ[i]?) → σ'.length = σ.length → Q σ' H) → gNs is xs σ H Q
  | [], [], xs, ρ, ρ', σ, Q, R, r, e, q => by
    cases r
    cases e
    exact ⟨rfl, q σ (.refl R) (fun _ _ => rfl) rfl⟩
  | [], _ :: _, _, _, _, _, _, _, _, e, _ => by cases e
  | _ :: _, [], _, _, _, _, _, _, _, e, _ => by cases e
  | i :: is, d :: ds, xs, ρ, ρ', σ, Q, R, r, e, q => by
    obtain ⟨⟨⟩, ρ1, e1, e2⟩ := bnd_ok (show bnd (setVar i (d, false)) (fun _ => setVars is ds) ρ = .ok () ρ' from e)
    cases r with
    | @cons v vs _ _ r1 rs =>
      have P1 := set_post R r1 e1
      refine ⟨v, vs, rfl, gs_of (ρ := ρ1) P1.rep (rs.mono P1.keep) e2 fun σ' P2 h1 h2 => q σ' (P1.trans P2) (fun j hj => ?_) (by rw [h2]; simp)⟩
      simp only [List.mem_cons, not_or] at hj
      rw [h1 j hj.2, List.getElem?_set_ne (Ne.symm hj.1)]
theorem pgs_cons' {i : Nat} {is : List Nat} {x : Str} (c : Cd X Z) (h : PGs X es (gNs is)) (hi : X.N[i]? = some x := by rfl) (hx : Loc X.env.scope x := by first | exact Or.inl rfl | exact Or.inr rfl) (hf : X.fn x = true ∨ X.env.scope.names.lookup x = some .local := by first | exact .inl rfl | exact .inr rfl) :
    PGs X (.Name x p :: es) (gNs (i :: is)) := pgs_cons (pg_name c.nd hi hx hf) h
theorem g_tp {is : List Nat} {k n : Nat} (c : Cd X Z) (h : PGs X es (gNs is)) (hl : is.length = n) (hn : (assignEach es X.env).length = n := by rfl) (hst : (assignEach es X.env).findIdx? (·.1) = none := by rfl) : eG X Z (.Tuple es k pos) (.tp is) := fun Y o =>
  pg_imp (pg_tup c.calm h hn hst) fun v σ H Q h => by
    obtain ⟨ρ, d, ρ', R, r, e, q⟩ := h
    cases d with
    | tuple ds =>
      cases r with
      | @tup a xs _ hs r =>
        refine ⟨a, xs, rfl, by rw [← c.k o]; exact cut_keep.sqT hs, ?_, gs_of R r e q⟩
        rw [r.length]
        have z : ∀ {is : List Nat} {ds : List D} {ρ ρ' : Env}, setVars is ds ρ = .ok () ρ' → ds.length = is.length := by
          intro is
          induction is with
          | nil => intro ds ρ ρ' e; cases ds with
            | nil => rfl
            | cons => cases e
          | cons i is ih => intro ds ρ ρ' e; cases ds with
            | nil => cases e
            | cons d ds =>
              obtain ⟨⟨⟩, ρ1, _, e2⟩ := bnd_ok (show bnd (setVar i (d, false)) (fun _ => setVars is ds) ρ = .ok () ρ' from e)
              rw [List.length_cons, List.length_cons, ih e2]
        rw [z e]; exact hl
    | _ => cases e

/-! ### a block's end -/
theorem backE_len (ρ ρ' : Env) : ∀ vs : List Nat, (backE ρ ρ' vs).length = ρ'.length
  | [] => rfl
  | v :: vs => by unfold backE; rw [List.length_set, backE_len ρ ρ' vs]
theorem backE_out {i : Nat} {vs : List Nat} (h : i ∉ vs) : (backE ρ ρ' vs)[i]? = ρ'[i]? := by
  induction vs with
  | nil => rfl
  | cons v vs ih =>
    simp only [List.mem_cons, not_or] at h
    unfold backE
    rw [List.getElem?_set_ne (Ne.symm h.1)]
    exact ih h.2
theorem backE_in {i : Nat} {s : Sl} {vs : List Nat} (h : i ∈ vs) (e : (backE ρ ρ' vs)[i]? = some (some s)) : ρ[i]? = some (some s) := by
  induction vs with
  | nil => cases h
  | cons v vs ih =>
    unfold backE at e
    by_cases q : v = i
    · subst q
      have z := get_set_eq e
      rw [List.getD_eq_getElem?_getD] at z
      cases q' : ρ[v]? with
      | none => rw [q'] at z; cases z
      | some o => rw [q'] at z; exact congrArg some z.symm
    · rw [List.getElem?_set_ne q] at e
      rcases (List.mem_cons.mp h) with z | z
      · exact absurd z.symm q
      · exact ih z e
theorem lent_back {vs : List Nat} (h1 : noOwn ρ vs = true) (h : Lent ρ ρ') : Lent ρ (backE ρ ρ' vs) := fun i d e => by
  obtain ⟨d', z⟩ := h i d e
  exact ⟨d', by rw [backE_out fun q => noOwn_get h1 q true d e]; exact z⟩
theorem own_back {vs : List Nat} {σ' : L2.St} (h1 : noOwn ρ vs = true) (h2 : noOwn ρ' vs = true) (hσ : L2.wipe σ' vs = L2.wipe σ vs) {a : Addr} : OwnAt (backE ρ ρ' vs) σ a ↔ OwnAt ρ' σ' a := by
  have same : ∀ i, i ∉ vs → σ'[i]? = σ[i]? := fun i hi => by rw [← wipe_get (σ := σ') hi, hσ, wipe_get hi]
  constructor
  · rintro ⟨i, b, d, e1, e2⟩
    by_cases hi : i ∈ vs
    · exact absurd (backE_in hi e1) (noOwn_get h1 hi b d)
    · rw [backE_out hi] at e1
      exact ⟨i, b, d, e1, by rw [same i hi]; exact e2⟩
  · rintro ⟨i, b, d, e1, e2⟩
    by_cases hi : i ∈ vs
    · exact absurd e1 (noOwn_get h2 hi b d)
    · exact ⟨i, b, d, by rw [backE_out hi]; exact e1, by rw [← same i hi]; exact e2⟩
theorem RepE.back {Y' : Yc} {vs : List Nat} {σ' : L2.St} (hK : Y'.K = Y.K) (R : RepE Y ρ σ H) (R' : RepE Y' ρ' σ' H') (h1 : noOwn ρ vs = true) (h2 : noOwn ρ' vs = true) (hσ : L2.wipe σ' vs = L2.wipe σ vs)
    (k : Keep (cut H (Ex_ Y ρ σ)) (cut H' (Ex_ Y' ρ' σ'))) : RepE Y' (backE ρ ρ' vs) σ H' := by
  have same : ∀ i, i ∉ vs → σ'[i]? = σ[i]? := fun i hi => by rw [← wipe_get (σ := σ') hi, hσ, wipe_get hi]
  have kk : Keep (cut H' (Ex_ Y' ρ' σ')) (cut H' (Ex_ Y' (backE ρ ρ' vs) σ)) := cut_sub fun a z => z.elim .inl fun q => .inr ((own_back h1 h2 hσ).mp q)
  have hl : σ'.length = σ.length := by
    have z := congrArg List.length hσ
    rw [wipe_length, wipe_length] at z
    exact z
  refine ⟨by rw [backE_len, R'.len, hl], fun i d e => ?_, fun i b d e => ?_, fun i j b b' d d' a e1 e2 e3 e4 => ?_, R'.sub, R'.trk, R'.tbs⟩
  · by_cases hi : i ∈ vs
    · obtain ⟨v, z1, z2⟩ := R.fro i d (backE_in hi e)
      exact ⟨v, z1, by rw [hK]; exact (z2.mono k).mono kk⟩
    · rw [backE_out hi] at e
      obtain ⟨v, z1, z2⟩ := R'.fro i d e
      exact ⟨v, by rw [← same i hi]; exact z1, z2.mono kk⟩
  · by_cases hi : i ∈ vs
    · exact absurd (backE_in hi e) (noOwn_get h1 hi b d)
    · rw [backE_out hi] at e
      obtain ⟨v, z1, z2, z3⟩ := R'.own i b d e
      exact ⟨v, by rw [← same i hi]; exact z1, z2.mono (fun _ h _ => h) kk, z3⟩
  · have n1 : i ∉ vs := fun hi => absurd (backE_in hi e1) (noOwn_get h1 hi b d)
    have n2 : j ∉ vs := fun hi => absurd (backE_in hi e2) (noOwn_get h1 hi b' d')
    rw [backE_out n1] at e1
    rw [backE_out n2] at e2
    exact R'.inj i j b b' d d' a e1 e2 (by rw [same i n1]; exact e3) (by rw [same j n2]; exact e4)
/-- the list at p grows -/
theorem RepE.put {p : Addr} {xs ys : List V} (ht : TbOk Y.tb) (R : RepE (Y.plus p) ρ σ H) (hp : H p = some (.lst xs)) (n : ¬ OwnAt ρ σ p) : RepE (Y.plus p) ρ σ (upd H p (.lst ys)) := by
  have k : Keep (cut H (Ex_ (Y.plus p) ρ σ)) (cut (upd H p (.lst ys)) (Ex_ (Y.plus p) ρ σ)) := fun a o e _ => by
    obtain ⟨e1, e2⟩ := cut_some.mp e
    have ne : a ≠ p := fun z => e2 (plus_ex.mpr (.inr z))
    exact cut_some.mpr ⟨by rw [upd_ne ne]; exact e1, e2⟩
  refine ⟨R.len, fun i d e => ?_, fun i b d e => ?_, R.inj, R.sub, fun a z => ?_, ht H _ R.tbs fun a o e q => ?_⟩
  · obtain ⟨v, h1, h2⟩ := R.fro i d e
    exact ⟨v, h1, h2.mono k⟩
  · obtain ⟨a, h1, h2, h3⟩ := R.own i b d e
    have ne : a ≠ p := fun z => n ⟨i, b, d, e, z ▸ h1⟩
    exact ⟨a, h1, h2.mono (fun o h _ => by rw [upd_ne ne]; exact h) k, h3⟩
  · by_cases q : a = p
    · subst q; rw [upd_same]; exact fun z => by cases z
    · rw [upd_ne q]; exact R.trk a z
  · have ne : a ≠ p := fun z => by
      subst z
      rw [hp] at e
      cases e
      rcases q with q | ⟨φ, q⟩
      · exact q fun _ z => by cases z
      · cases q
    rw [upd_ne ne]; exact e
theorem wipe_wipe (σ : L2.St) (vs : List Nat) : L2.wipe (L2.wipe σ vs) vs = L2.wipe σ vs := by
  have key : ∀ (σ : L2.St) (i : Nat), i ∈ vs → ∀ x, (L2.wipe σ vs)[i]? = some x → x = none := by
    intro σ i hi x e
    cases x with
    | none => rfl
    | some v => exact absurd hi (wipe_some e).2
  apply List.ext_getElem?
  intro i
  by_cases hi : i ∈ vs
  · by_cases hl : i < σ.length
    · have a1 : i < (L2.wipe (L2.wipe σ vs) vs).length := by rw [wipe_length, wipe_length]; exact hl
      have a2 : i < (L2.wipe σ vs).length := by rw [wipe_length]; exact hl
      rw [List.getElem?_eq_getElem a1, List.getElem?_eq_getElem a2, key _ i hi _ (List.getElem?_eq_getElem a1), key _ i hi _ (List.getElem?_eq_getElem a2)]
    · rw [List.getElem?_eq_none (by rw [wipe_length, wipe_length]; omega), List.getElem?_eq_none (by rw [wipe_length]; omega)]
  · rw [wipe_get hi]
theorem wipe_same {σ σ' : L2.St} {vs : List Nat} (hl : σ'.length = σ.length) (h : ∀ i, i ∉ vs → σ'[i]? = σ[i]?) : L2.wipe σ' vs = L2.wipe σ vs := by
  have key : ∀ (σ : L2.St) (i : Nat), i ∈ vs → ∀ x, (L2.wipe σ vs)[i]? = some x → x = none := by
    intro σ i hi x e
    cases x with
    | none => rfl
    | some v => exact absurd hi (wipe_some e).2
  apply List.ext_getElem?
  intro i
  by_cases hi : i ∈ vs
  · by_cases hl' : i < σ.length
    · have a1 : i < (L2.wipe σ' vs).length := by rw [wipe_length, hl]; exact hl'
      have a2 : i < (L2.wipe σ vs).length := by rw [wipe_length]; exact hl'
      rw [List.getElem?_eq_getElem a1, List.getElem?_eq_getElem a2, key _ i hi _ (List.getElem?_eq_getElem a1), key _ i hi _ (List.getElem?_eq_getElem a2)]
    · rw [List.getElem?_eq_none (by rw [wipe_length, hl]; omega), List.getElem?_eq_none (by rw [wipe_length]; omega)]
  · rw [wipe_get hi, wipe_get hi, h i hi]
end
end Ty
set_option autoImplicit false
set_option maxHeartbeats 200000
/-! T5d: comprehensions. -/
namespace Ty
open PySem.Spec PyProof.Rows L2 PySem
def aM (Z : Zc) (m : M R) : TE := fun σ H Q => ∃ Y, Of Z Y ∧ tM Y m σ H Q
def aT (Z : Zc) (m : M Bool) : TT := fun σ H Q => ∃ Y, Of Z Y ∧ tT Y m σ H Q
def aG (Z : Zc) (t : Tg) : TG := fun v σ H Q => ∃ Y, Of Z Y ∧ gT Y t v σ H Q
def aI (Z : Zc) (m : M (List D)) : TI := fun σ H R => ∃ Y, Of Z Y ∧ tI Y m σ H R
section
variable {X : Cx} {Z : Zc} {Y : Yc} {Φ : Fns} {P : Pars} {e e1 e2 e3 tg iter elt : Expr} {es rest ifs : List Expr} {pos p p2 p3 tpos : Pos} {t t1 t2 t3 : Ex} {ts : Exs} {ρ ρ' : Env} {σ : L2.St} {H H' : Hp}
theorem pe_a {m : M R} (h : eM X Z e m) : PE X e (aM Z m) := ⟨fun pins s σ H Q I ⟨Y, o, q⟩ => (h Y o).run pins s σ H Q I q⟩
theorem pts_a {m : M Bool} (h : eTs X Z es m) : PTs X es (aT Z m) := ⟨fun pins s σ H Q I ⟨Y, o, q⟩ => (h Y o).run pins s σ H Q I q⟩
theorem pg_a {t : Tg} (h : eG X Z e t) : PG X e (aG Z t) := ⟨fun pins s σ H v u Q I r ⟨Y, o, q⟩ => (h Y o).run pins s σ H v u Q I r q⟩
theorem pi_a {m : M (List D)} (h : eI X Z tg iter m) : PI X tg iter (aI Z m) := ⟨fun pins s σ H R I ⟨Y, o, q⟩ => (h Y o).run pins s σ H R I q⟩
theorem ts_nil : eTs X Z [] (evC Φ P .nil) := fun Y o => ⟨fun pins s σ H Q I h => by
  rw [evC] at h
  exact pts_nil.run pins s σ H Q I (tT_ret h)⟩
theorem ts_one (h : eT X Z e (tst Φ P t)) : eTs X Z [e] (evC Φ P (.cons t .nil)) := fun Y o => ⟨fun pins s σ H Q I h' => by
  refine (pts_one (h Y o)).run pins s σ H Q I ?_
  rw [evC, evC] at h'
  obtain ⟨ρ, b, ρ', R, e, q⟩ := tT_of h'
  obtain ⟨r, ρ1, e1, e2⟩ := bnd_ok e
  obtain ⟨k, ρ2, e3, e4⟩ := bnd_ok e2
  refine tT_mk R (b := k) (ρ' := ρ2) (show bnd (ev Φ P t) asBool ρ = .ok k ρ2 by rw [bnd_eq e1]; exact e3) ?_
  cases k <;> cases e4 <;> exact q⟩
theorem blk_ok {α : Type} {vs : List Nat} {m : M α} {a : α} (h : blk vs m ρ = .ok a ρ') : ∃ ρe, noOwn ρ vs = true ∧ m (wipeE ρ vs) = .ok a ρe ∧ noOwn ρe vs = true ∧ ρ' = backE ρ ρe vs := by
  unfold blk at h
  split at h
  · rename_i h1
    split at h
    · rename_i a' ρe e
      split at h
      · rename_i h2
        cases h
        exact ⟨ρe, h1, e, h2, rfl⟩
      · cases h
    · cases h
  · cases h
theorem fewD_ok {xs : List D} {u : Unit} (h : fewD xs ρ = .ok u ρ') : xs.length ≤ 1000000 ∧ ρ' = ρ := by
  unfold fewD at h
  split at h
  · cases h; exact ⟨by assumption, rfl⟩
  · cases h
theorem each_cons {vs : List Nat} {f : D → M (Option D)} {x : D} {xs ys : List D} (h : each vs f (x :: xs) ρ = .ok ys ρ') :
    ∃ y ρ3 zs, f x ρ = .ok y ρ3 ∧ noOwn ρ3 vs = true ∧ each vs f xs (wipeE ρ3 vs) = .ok zs ρ' ∧ ys = (match y with | some d => d :: zs | none => zs) := by
  unfold each at h
  obtain ⟨y, ρ3, e1, e2⟩ := bnd_ok h
  split at e2
  · rename_i h1
    obtain ⟨zs, ρ4, e3, e4⟩ := bnd_ok e2
    cases e4
    exact ⟨y, ρ3, zs, e1, h1, e3, rfl⟩
  · cases e2
/-- what holds ahead of a turn -/
structure LcI (Y : Yc) (D : Addr) (vs : List Nat) (σ : L2.St) (ρ1 : Env) (H1 : Hp) (f : Ty.D → M (Option Ty.D)) (xs yall : List Ty.D) (ρe : Env) (i : Nat) (Hh : Hp) (ρi : Env) (acc : List V) (ds rest : List Ty.D) : Prop where
  rep : RepE (Y.plus D) ρi (L2.wipe σ vs) Hh
  frm : Fr (fun a => OwnAt ρ1 σ a ∨ a = D) (upd H1 D (.lst [])) Hh
  sub : ∀ a, OwnAt ρi (L2.wipe σ vs) a → OwnAt ρ1 σ a
  at_ : Hh D = some (.lst acc)
  rp : RpAll Y.K (cut Hh (Ex_ (Y.plus D) ρi (L2.wipe σ vs))) acc ds
  len : acc.length ≤ i
  run : each vs f (xs.drop i) ρi = .ok rest ρe
  eq : ds ++ rest = yall
  par : Lent ρ1 ρi
theorem lc_keep {D : Addr} {vs : List Nat} {ρ1 ρi : Env} {H1 Hh : Hp} {u : HO} (hD : H1 D = none) (frm : Fr (fun a => OwnAt ρ1 σ a ∨ a = D) (upd H1 D u) Hh) (sub : ∀ a, OwnAt ρi (L2.wipe σ vs) a → OwnAt ρ1 σ a) :
    Keep (cut H1 (Ex_ Y ρ1 σ)) (cut Hh (Ex_ (Y.plus D) ρi (L2.wipe σ vs))) := fun a o e t => by
  obtain ⟨e1, ne⟩ := cut_some.mp e
  have nD : a ≠ D := fun z => by rw [z, hD] at e1; cases e1
  have e2 : (upd H1 D u) a = some o := by rw [upd_ne nD]; exact e1
  refine cut_some.mpr ⟨frm.same a o e2 (fun z => z.elim (fun q => ne (.inr q)) nD) t, fun z => ?_⟩
  rcases plus_ex.mp z with (z | z) | z
  · exact ne (.inl z)
  · exact ne (.inr (sub a z))
  · exact nD z
theorem fr_upd {D : Addr} {u u' : HO} (h : H D = some u) : Fr (fun a => a = D) H (upd H D u') := ⟨fun a o e n _ => by rw [upd_ne n]; exact e, fun a e => by
  by_cases q : a = D
  · subst q; rw [upd_same]; exact fun z => by cases z
  · rw [upd_ne q]; exact e⟩
theorem lc_notown {D : Addr} {vs : List Nat} {ρ1 ρi : Env} {H1 : Hp} (R1 : RepE Y ρ1 σ H1) (hD : H1 D = none) (sub : ∀ a, OwnAt ρi (L2.wipe σ vs) a → OwnAt ρ1 σ a) : ¬ OwnAt ρi (L2.wipe σ vs) D := fun z => by
  obtain ⟨o, e, _⟩ := R1.ownTr (sub D z)
  rw [hD] at e; cases e
theorem PostS.strong {σ' : L2.St} (P : PostS Y ρ ρ' σ σ' H H) : ∀ a, OwnAt ρ' σ' a → OwnAt ρ σ a := fun a z => (P.sub a z).elim (fun q => q) fun q => by
  obtain ⟨o, e, _⟩ := P.rep.ownTr z
  rw [q] at e; cases e
/-- the end of a turn: f has given d, and it is put -/
theorem LcI.put {D : Addr} {vs : List Nat} {ρ1 ρi ρ3 ρe : Env} {H1 Hh H4 : Hp} {f : Ty.D → M (Option Ty.D)} {xs yall : List Ty.D} {i : Nat} {acc : List V} {ds rest zs : List Ty.D} {σ2 : L2.St} {v : V} {d : Ty.D} (ht : TbOk Y.tb) (R1 : RepE Y ρ1 σ H1) (hD : H1 D = none)
    (L : LcI Y D vs σ ρ1 H1 f xs yall ρe i Hh ρi acc ds rest) (Q : PostS (Y.plus D) ρi ρ3 (L2.wipe σ vs) σ2 Hh H4) (hq : ∀ a, OwnAt ρ3 σ2 a → OwnAt ρi (L2.wipe σ vs) a) (hw : L2.wipe σ2 vs = L2.wipe σ vs) (no : noOwn ρ3 vs = true)
    (r : Rp Y.K (cut H4 (Ex_ (Y.plus D) ρ3 σ2)) v d) (hr : each vs f (xs.drop (i + 1)) (wipeE ρ3 vs) = .ok zs ρe) (he : rest = d :: zs) :
    H4 D = some (.lst acc) ∧ LcI Y D vs σ ρ1 H1 f xs yall ρe (i + 1) (upd H4 D (.lst (acc ++ [v]))) (wipeE ρ3 vs) (acc ++ [v]) (ds ++ [d]) zs := by
  have nD := lc_notown R1 hD L.sub
  have at4 : H4 D = some (.lst acc) := Q.frm.same D _ L.at_ nD (fun _ z => by cases z)
  have sub' : ∀ a, OwnAt (wipeE ρ3 vs) (L2.wipe σ vs) a → OwnAt ρ1 σ a := fun a z => by
    rw [← hw] at z
    exact L.sub a (hq a ((own_wipe no).mp z))
  have R4 : RepE (Y.plus D) (wipeE ρ3 vs) (L2.wipe σ vs) H4 := hw ▸ Q.rep.wipe no
  have nD' := lc_notown R1 hD sub'
  have k1 : Keep (cut H4 (Ex_ (Y.plus D) ρ3 σ2)) (cut H4 (Ex_ (Y.plus D) (wipeE ρ3 vs) (L2.wipe σ vs))) := cut_sub fun a z => z.elim .inl fun q => .inr ((own_wipe no).mp (hw ▸ q))
  have k2 : Keep (cut H4 (Ex_ (Y.plus D) (wipeE ρ3 vs) (L2.wipe σ vs))) (cut (upd H4 D (.lst (acc ++ [v]))) (Ex_ (Y.plus D) (wipeE ρ3 vs) (L2.wipe σ vs))) := fun a o e _ => by
    obtain ⟨e1, e2⟩ := cut_some.mp e
    have ne : a ≠ D := fun z => e2 (plus_ex.mpr (.inr z))
    exact cut_some.mpr ⟨by rw [upd_ne ne]; exact e1, e2⟩
  refine ⟨at4, ⟨R4.put ht at4 nD', ?_, sub', upd_same, (L.rp.mono ((Q.keep.trans k1).trans k2)).append (.cons ((r.mono k1).mono k2) .nil), ?_, hr, ?_, ?_⟩⟩
  · refine (L.frm.trans Q.frm (fun _ h => h) (W'' := fun a => OwnAt ρ1 σ a ∨ a = D) fun a z => ?_).trans (fr_upd at4) (fun _ h => h) fun a z => .inl (.inr z)
    exact .inl (.inl (L.sub a z))
  · rw [List.length_append]; exact Nat.succ_le_succ L.len
  · rw [List.append_assoc, List.singleton_append, ← he]; exact L.eq
  · exact (L.par.trans Q.par).trans (lent_wipe no)
/-- the end of a turn that gives nothing -/
theorem LcI.skip {D : Addr} {vs : List Nat} {ρ1 ρi ρ3 ρe : Env} {H1 Hh H4 : Hp} {f : Ty.D → M (Option Ty.D)} {xs yall : List Ty.D} {i : Nat} {acc : List V} {ds rest : List Ty.D} {σ2 : L2.St} (R1 : RepE Y ρ1 σ H1) (hD : H1 D = none)
    (L : LcI Y D vs σ ρ1 H1 f xs yall ρe i Hh ρi acc ds rest) (Q : PostS (Y.plus D) ρi ρ3 (L2.wipe σ vs) σ2 Hh H4) (hq : ∀ a, OwnAt ρ3 σ2 a → OwnAt ρi (L2.wipe σ vs) a) (hw : L2.wipe σ2 vs = L2.wipe σ vs) (no : noOwn ρ3 vs = true) (hr : each vs f (xs.drop (i + 1)) (wipeE ρ3 vs) = .ok rest ρe) :
    LcI Y D vs σ ρ1 H1 f xs yall ρe (i + 1) H4 (wipeE ρ3 vs) acc ds rest := by
  have nD := lc_notown R1 hD L.sub
  have at4 : H4 D = some (.lst acc) := Q.frm.same D _ L.at_ nD (fun _ z => by cases z)
  have k1 : Keep (cut H4 (Ex_ (Y.plus D) ρ3 σ2)) (cut H4 (Ex_ (Y.plus D) (wipeE ρ3 vs) (L2.wipe σ vs))) := cut_sub fun a z => z.elim .inl fun q => .inr ((own_wipe no).mp (hw ▸ q))
  refine ⟨hw ▸ Q.rep.wipe no, L.frm.trans Q.frm (fun _ h => h) fun a z => .inl (.inl (L.sub a z)), fun a z => ?_, at4, L.rp.mono (Q.keep.trans k1), Nat.le_succ_of_le L.len, hr, L.eq, (L.par.trans Q.par).trans (lent_wipe no)⟩
  rw [← hw] at z
  exact L.sub a (hq a ((own_wipe no).mp z))
/-- behind the last turn -/
theorem LcI.done {D : Addr} {vs : List Nat} {ρ1 ρe ρi : Env} {H1 Hh : Hp} {f : Ty.D → M (Option Ty.D)} {xs yall : List Ty.D} {acc : List V} {ds rest : List Ty.D} (R1 : RepE Y ρ1 σ H1) (hD : H1 D = none) (n1 : noOwn ρ1 vs = true) (ne : noOwn ρe vs = true)
    (L : LcI Y D vs σ ρ1 H1 f xs yall ρe xs.length Hh ρi acc ds rest) : Post Y ρ1 (backE ρ1 ρe vs) σ H1 Hh ∧ ResV Y (backE ρ1 ρe vs) σ H1 Hh (.list yall, true) (.ref D) := by
  have hr := L.run
  rw [List.drop_length] at hr
  have ee : ρi = ρe ∧ rest = [] := by cases hr; exact ⟨rfl, rfl⟩
  obtain ⟨rfl, rfl⟩ := ee
  have he := L.eq
  rw [List.append_nil] at he
  subst he
  have K1 := lc_keep (Y := Y) hD L.frm L.sub
  have hσ := wipe_wipe σ vs
  have RB : RepE (Y.plus D) (backE ρ1 ρi vs) σ Hh := RepE.back (Y := Y) (Y' := Y.plus D) rfl R1 L.rep n1 ne hσ K1
  have ob : ∀ a, OwnAt (backE ρ1 ρi vs) σ a → OwnAt ρ1 σ a := fun a z => L.sub a ((own_back n1 ne hσ).mp z)
  have nD : ¬ OwnAt (backE ρ1 ρi vs) σ D := fun z => lc_notown R1 hD L.sub ((own_back n1 ne hσ).mp z)
  have FR : Fr (OwnAt ρ1 σ) H1 Hh := ⟨fun a o e n t => by
    have q : a ≠ D := fun z => by rw [z, hD] at e; cases e
    exact L.frm.same a o (by rw [upd_ne q]; exact e) (fun z => z.elim n q) t, fun a e => L.frm.some a (by
    by_cases q : a = D
    · subst q; rw [upd_same]; exact fun z => by cases z
    · rw [upd_ne q]; exact e)⟩
  have k3 : Keep (cut Hh (Ex_ (Y.plus D) ρi (L2.wipe σ vs))) (cut Hh (Ex_ (Y.plus D) (backE ρ1 ρi vs) σ)) := cut_sub fun a z => z.elim .inl fun q => .inr ((own_back n1 ne hσ).mp q)
  refine ⟨⟨RB.minus nD R1.sub, FR, ob, lent_back n1 L.par⟩, D, acc, ds, rfl, rfl, hD, L.at_, fun z => ?_, L.rp.mono k3, RB⟩
  rcases z with z | z
  · exact R1.trk D (R1.sub D z) hD
  · exact nD z
end
end Ty
set_option autoImplicit false
set_option maxHeartbeats 200000
/-! T5e: comprehensions, the readings and the rules. -/
namespace Ty
open PySem.Spec PyProof.Rows L2 PySem
section
variable {X : Cx} {Z : Zc} {Y : Yc} {Φ : Fns} {P : Pars} {e e1 e2 e3 tg iter elt : Expr} {es rest ifs : List Expr} {pos p p2 p3 tpos : Pos} {t t1 t2 t3 : Ex} {ts : Exs} {ρ ρ' : Env} {σ : L2.St} {H H' : Hp}
/-- what the iterator has given -/
theorem yield_post {K : PySem.W.Frag} {x : V} {d : D} (ht : TbOk Y.tb) (R : RepE Y ρ σ H) (h : H' = H ∨ ∃ T ys, H T = none ∧ H' = upd H T (.tup ys)) : Post Y ρ ρ σ H H' := by
  rcases h with rfl | ⟨T, ys, hT, rfl⟩
  · exact .refl R
  · exact .new R hT ht
/-- a turn's body: the target, the tests, what is kept -/
def turnM (Φ : Fns) (P : Pars) (tgt : Tg) (ts : Exs) (m : M (Option D)) (x : D) : M (Option D) := bnd (setTg tgt (x, false)) fun _ => bnd (evC Φ P ts) fun k => if k then m else ret none
theorem small_lt {n m : Nat} (h : n < m) (hm : m ≤ 1000000) : n < sizeLine := by rw [sizeLine_eq]; omega
theorem lc_read {tgt : Tg} {it : It} {vs : List Nat} {Q : VK} (ht : TbOk Z.tb) (hn : ∀ i ∈ tgN tgt, i ∈ vs) (o : Of Z Y) (h : tM Y (ev Φ P (.comp vs tgt it ts t)) σ H Q) :
    tLc (aI Z (evI Φ P it)) (aG Z tgt) (aT Z (evC Φ P ts)) (aM Z (ev Φ P t)) vs σ H Q := by
  have htY : TbOk Y.tb := by rw [o.2]; exact ht
  rw [ev] at h
  obtain ⟨ρ, r, ρ', R, e, k⟩ := tM_of h
  obtain ⟨xs, ρ1, e1, e2⟩ := bnd_ok e
  obtain ⟨_, ρ2, e3, e4⟩ := bnd_ok e2
  obtain ⟨hfew, rfl⟩ := fewD_ok e3
  obtain ⟨yall, ρ3, e5, e6⟩ := bnd_ok e4
  cases e6
  obtain ⟨ρe, n1, er, ne, rfl⟩ := blk_ok e5
  refine ⟨Y, o, ρ, R, ?_⟩
  rw [e1]
  intro J H1 P1 G D hD
  refine ⟨fun i m Hh => m = xs.length - i ∧ i ≤ xs.length ∧ ∃ ρi acc ds rest, LcI Y D vs σ ρ2 H1 (turnM Φ P tgt ts (bnd (ev Φ P t) fun r => ret (some r.1))) xs yall ρe i Hh ρi acc ds rest, ⟨xs.length, rfl, Nat.zero_le _, wipeE ρ2 vs, [], [], yall, ?_⟩, ?_⟩
  · have R0 : RepE (Y.plus D) (wipeE ρ2 vs) (L2.wipe σ vs) (upd H1 D (.lst [])) := (P1.rep.plus hD htY).wipe n1
    exact ⟨R0, .refl, fun a z => (own_wipe n1).mp z, upd_same, .nil, Nat.le_refl 0, er, rfl, lent_wipe n1⟩
  · rintro i m Hh ⟨rfl, hi, ρi, acc, ds, rest, L⟩
    have K1 := lc_keep (Y := Y) hD L.frm L.sub
    obtain ⟨g1, g2, g3⟩ := G Hh _ K1 fun a z => L.rep.exTr z
    by_cases hlt : i < xs.length
    · refine .inr ⟨g1 i hlt, fun H' => ∃ ρi acc ds rest, LcI Y D vs σ ρ2 H1 (turnM Φ P tgt ts (bnd (ev Φ P t) fun r => ret (some r.1))) xs yall ρe (i + 1) H' ρi acc ds rest, fun H' p => ⟨xs.length - (i + 1), by omega, rfl, hlt, p⟩, fun x H' y => ?_⟩
      obtain ⟨d, hd, rd, hH⟩ := g3 i x H' hlt y
      have hdr : xs.drop i = d :: xs.drop (i + 1) := by
        rw [(List.drop_eq_getElem_cons hlt)]
        rw [List.getElem?_eq_getElem hlt] at hd
        rw [Option.some.inj hd]
      have hrun := L.run
      rw [hdr] at hrun
      obtain ⟨yo, ρt, zs, f1, no, f2, f3⟩ := each_cons hrun
      obtain ⟨_, ρa, s1, s2⟩ := bnd_ok (show bnd (setTg tgt (d, false)) (fun _ => bnd (evC Φ P ts) fun k => if k = true then bnd (ev Φ P t) fun r => ret (some r.1) else ret none) ρi = .ok yo ρt from f1)
      obtain ⟨b, ρb, s3, s4⟩ := bnd_ok s2
      have oD : Of Z (Y.plus D) := o
      have Py : Post (Y.plus D) ρi ρi (L2.wipe σ vs) Hh H' := yield_post (K := Y.K) (x := x) (d := d) htY L.rep hH
      refine ⟨Y.plus D, oD, ρi, d, ρa, Py.rep, rd, s1, fun σ2 Pg hsame hlen => ?_⟩
      have hw : L2.wipe σ2 vs = L2.wipe σ vs := (wipe_same hlen fun j hj => hsame j fun z => hj (hn j z)).trans (wipe_wipe σ vs)
      refine ⟨hw, Y.plus D, oD, tT_mk Pg.rep s3 fun H3 P3 => ?_⟩
      have Q3 : PostS (Y.plus D) ρi ρb (L2.wipe σ vs) σ2 Hh H3 := (Py.s.trans Pg).trans P3.s
      have q3 : ∀ a, OwnAt ρb σ2 a → OwnAt ρi (L2.wipe σ vs) a := fun a z => Pg.strong a (P3.sub a z)
      cases b with
      | true =>
        rw [if_pos rfl] at s4 ⊢
        obtain ⟨r, ρc, s5, s6⟩ := bnd_ok s4
        cases s6
        refine ⟨Y.plus D, oD, tM_mk P3.rep s5 fun v H4 P4 r4 => ⟨acc, ?_⟩⟩
        obtain ⟨z1, z2⟩ := L.put htY P1.rep hD (Q3.trans P4.s) (fun a z => q3 a (P4.sub a z)) hw no r4.rp f2 f3
        exact ⟨z1, small_lt (Nat.lt_of_le_of_lt L.len hlt) hfew, _, _, _, _, z2⟩
      | false =>
        rw [if_neg (by simp)] at s4 ⊢
        cases s4
        have f3' : rest = zs := f3
        subst f3'
        exact ⟨_, _, _, _, L.skip P1.rep hD Q3 q3 hw no f2⟩
    · have ei : i = xs.length := by omega
      subst ei
      obtain ⟨z1, z2⟩ := L.done P1.rep hD n1 ne
      exact .inl ⟨g2, k _ Hh (P1.trans z1) (z2.back P1.none)⟩
theorem m_comp {own : List (Str × Nat)} {scope : Scope} {tgt : Tg} {it : It} (c : Cd X Z) (hi : eI X Z tg iter (evI Φ P it)) (ok : BlkOk X.N X.env.scope scope own)
    (hg : ∀ (s : Shared) (H : Hp) (C : Addr) (cl : List (Str × Addr)) (fp : List Addr), eG (X.blk s H scope (compEnvC scope cl C X.env) fp) Z tg tgt) (ht : ∀ (s : Shared) (H : Hp) (C : Addr) (cl : List (Str × Addr)) (fp : List Addr), eTs (X.blk s H scope (compEnvC scope cl C X.env) fp) Z ifs (evC Φ P ts))
    (he : ∀ (s : Shared) (H : Hp) (C : Addr) (cl : List (Str × Addr)) (fp : List Addr), eM (X.blk s H scope (compEnvC scope cl C X.env) fp) Z elt (ev Φ P t)) (hn : ∀ i ∈ tgN tgt, i ∈ own.map (·.2) := by decide)
    (hs : ∀ x, foldedSetIterable iter X.env x = pure x := by intro _; rfl) : eM X Z (.ListComp elt [⟨tg, iter, ifs, 0⟩] scope pos) (ev Φ P (.comp (own.map (·.2)) tgt it ts t)) := fun Y o =>
  pe_imp (pe_lc c.calm c.nd (pi_a hi) ok (fun s H C cl fp => pg_a (hg s H C cl fp)) (fun s H C cl fp => pts_a (ht s H C cl fp)) (fun s H C cl fp => pe_a (he s H C cl fp)) hs) fun σ H Q h => lc_read c.ht hn o h
end
end Ty
set_option autoImplicit false
set_option maxHeartbeats 200000
/-! T5f: comprehensions of two fors. -/
namespace Ty
open PySem.Spec PyProof.Rows L2 PySem
/-- the new list at D, in the midst of the turns; τ the slots now, σ the def's slots -/
structure LcC (Y : Yc) (D : Addr) (σ : L2.St) (ρ1 : Env) (H1 Hh : Hp) (ρi : Env) (τ : L2.St) (acc : List V) (ds : List Ty.D) : Prop where
  rep : RepE (Y.plus D) ρi τ Hh
  frm : Fr (fun a => OwnAt ρ1 σ a ∨ a = D) (upd H1 D (.lst [])) Hh
  sub : ∀ a, OwnAt ρi τ a → OwnAt ρ1 σ a
  at_ : Hh D = some (.lst acc)
  rp : RpAll Y.K (cut Hh (Ex_ (Y.plus D) ρi τ)) acc ds
  par : Lent ρ1 ρi
section
variable {X : Cx} {Z : Zc} {Y : Yc} {Φ : Fns} {P : Pars} {e e1 e2 e3 tg iter elt tg1 iter1 : Expr} {es rest ifs ifs1 : List Expr} {pos p p2 p3 tpos : Pos} {t t1 t2 t3 : Ex} {ts : Exs} {ρ ρ' ρ1 ρi ρ3 : Env} {σ τ τ2 : L2.St} {H H' H1 Hh H4 : Hp} {D : Addr} {acc : List V} {ds : List Ty.D}
theorem LcC.no (L : LcC Y D σ ρ1 H1 Hh ρi τ acc ds) (R1 : RepE Y ρ1 σ H1) (hD : H1 D = none) : ¬ OwnAt ρi τ D := fun z => by
  obtain ⟨o, e, _⟩ := R1.ownTr (L.sub D z)
  rw [hD] at e; cases e
theorem LcC.keep (L : LcC Y D σ ρ1 H1 Hh ρi τ acc ds) (hD : H1 D = none) : Keep (cut H1 (Ex_ Y ρ1 σ)) (cut Hh (Ex_ (Y.plus D) ρi τ)) := fun a o e t => by
  obtain ⟨e1, ne⟩ := cut_some.mp e
  have nD : a ≠ D := fun z => by rw [z, hD] at e1; cases e1
  refine cut_some.mpr ⟨L.frm.same a o (by rw [upd_ne nD]; exact e1) (fun z => z.elim (fun q => ne (.inr q)) nD) t, fun z => ?_⟩
  rcases plus_ex.mp z with (z | z) | z
  · exact ne (.inl z)
  · exact ne (.inr (L.sub a z))
  · exact nD z
theorem LcC.step (L : LcC Y D σ ρ1 H1 Hh ρi τ acc ds) (R1 : RepE Y ρ1 σ H1) (hD : H1 D = none) (Q : PostS (Y.plus D) ρi ρ3 τ τ2 Hh H4) (hq : ∀ a, OwnAt ρ3 τ2 a → OwnAt ρi τ a) : LcC Y D σ ρ1 H1 H4 ρ3 τ2 acc ds :=
  ⟨Q.rep, L.frm.trans Q.frm (fun _ h => h) fun a z => .inl (.inl (L.sub a z)), fun a z => L.sub a (hq a z), Q.frm.same D _ L.at_ (L.no R1 hD) (fun _ z => by cases z), L.rp.mono Q.keep, L.par.trans Q.par⟩
theorem LcC.wipe {vs : List Nat} (L : LcC Y D σ ρ1 H1 Hh ρi τ acc ds) (R1 : RepE Y ρ1 σ H1) (hD : H1 D = none) (no : noOwn ρi vs = true) : LcC Y D σ ρ1 H1 Hh (wipeE ρi vs) (L2.wipe τ vs) acc ds :=
  L.step R1 hD (.wipe L.rep no) fun a z => (own_wipe no).mp z
theorem LcC.push {v : V} {d : Ty.D} (ht : TbOk Y.tb) (L : LcC Y D σ ρ1 H1 Hh ρi τ acc ds) (R1 : RepE Y ρ1 σ H1) (hD : H1 D = none) (r : Rp Y.K (cut Hh (Ex_ (Y.plus D) ρi τ)) v d) :
    LcC Y D σ ρ1 H1 (upd Hh D (.lst (acc ++ [v]))) ρi τ (acc ++ [v]) (ds ++ [d]) := by
  have k2 : Keep (cut Hh (Ex_ (Y.plus D) ρi τ)) (cut (upd Hh D (.lst (acc ++ [v]))) (Ex_ (Y.plus D) ρi τ)) := fun a o e _ => by
    obtain ⟨e1, e2⟩ := cut_some.mp e
    have ne : a ≠ D := fun z => e2 (plus_ex.mpr (.inr z))
    exact cut_some.mpr ⟨by rw [upd_ne ne]; exact e1, e2⟩
  exact ⟨L.rep.put ht L.at_ (L.no R1 hD), L.frm.trans (fr_upd L.at_) (fun _ h => h) fun a z => .inl (.inr z), L.sub, upd_same, (L.rp.mono k2).append (.cons (r.mono k2) .nil), L.par⟩
theorem LcC.done {vs : List Nat} (L : LcC Y D σ ρ1 H1 Hh ρi τ acc ds) (R1 : RepE Y ρ1 σ H1) (hD : H1 D = none) (n1 : noOwn ρ1 vs = true) (ne : noOwn ρi vs = true) (hσ : L2.wipe τ vs = L2.wipe σ vs) :
    Post Y ρ1 (backE ρ1 ρi vs) σ H1 Hh ∧ ResV Y (backE ρ1 ρi vs) σ H1 Hh (.list ds, true) (.ref D) := by
  have RB : RepE (Y.plus D) (backE ρ1 ρi vs) σ Hh := RepE.back (Y := Y) (Y' := Y.plus D) rfl R1 L.rep n1 ne hσ (L.keep hD)
  have ob : ∀ a, OwnAt (backE ρ1 ρi vs) σ a → OwnAt ρ1 σ a := fun a z => L.sub a ((own_back n1 ne hσ).mp z)
  have nD : ¬ OwnAt (backE ρ1 ρi vs) σ D := fun z => L.no R1 hD ((own_back n1 ne hσ).mp z)
  have FR : Fr (OwnAt ρ1 σ) H1 Hh := ⟨fun a o e n t => by
    have q : a ≠ D := fun z => by rw [z, hD] at e; cases e
    exact L.frm.same a o (by rw [upd_ne q]; exact e) (fun z => z.elim n q) t, fun a e => L.frm.some a (by
    by_cases q : a = D
    · subst q; rw [upd_same]; exact fun z => by cases z
    · rw [upd_ne q]; exact e)⟩
  have k3 : Keep (cut Hh (Ex_ (Y.plus D) ρi τ)) (cut Hh (Ex_ (Y.plus D) (backE ρ1 ρi vs) σ)) := cut_sub fun a z => z.elim .inl fun q => .inr ((own_back n1 ne hσ).mp q)
  refine ⟨⟨RB.minus nD R1.sub, FR, ob, lent_back n1 L.par⟩, D, acc, ds, rfl, rfl, hD, L.at_, fun z => ?_, L.rp.mono k3, RB⟩
  rcases z with z | z
  · exact R1.trk D (R1.sub D z) hD
  · exact nD z
theorem wipe_more {σ τ : L2.St} {us vs : List Nat} (h : L2.wipe τ us = L2.wipe σ us) (hs : ∀ i ∈ us, i ∈ vs) : L2.wipe τ vs = L2.wipe σ vs := by
  have hl : τ.length = σ.length := by
    have z := congrArg List.length h
    rw [wipe_length, wipe_length] at z
    exact z
  refine wipe_same hl fun i hi => ?_
  have ni : i ∉ us := fun z => hi (hs i z)
  rw [← wipe_get (σ := τ) ni, h, wipe_get ni]
theorem each2_cons {vs : List Nat} {f : Ty.D → M (Option Ty.D)} {x : Ty.D} {xs ys : List Ty.D} (h : each2 vs f (x :: xs) ρ = .ok ys ρ') :
    noOwn ρ vs = true ∧ ∃ y ρ3 zs, f x (wipeE ρ vs) = .ok y ρ3 ∧ each2 vs f xs ρ3 = .ok zs ρ' ∧ ys = (match y with | some d => d :: zs | none => zs) := by
  unfold each2 at h
  split at h
  · rename_i h1
    obtain ⟨y, ρ3, e1, e2⟩ := bnd_ok h
    obtain ⟨zs, ρ4, e3, e4⟩ := bnd_ok e2
    cases e4
    exact ⟨h1, y, ρ3, zs, e1, e3, rfl⟩
  · cases h
def flatD (yss : List Ty.D) : List Ty.D := yss.flatMap fun ys => (itemsOf ys).getD []
/-- one of the inner turns' states -/
def InnP (Y : Yc) (D : Addr) (σ : L2.St) (ρ1 : Env) (H1 : Hp) (us : List Nat) (σ2 : L2.St) (H5 : Hp) (ρc : Env) (f : Ty.D → M (Option Ty.D)) (xs2 ys2 : List Ty.D) (ds0 : List Ty.D) (ρt : Env) (j : Nat) (Hh : Hp) : Prop :=
  ∃ ρj τj acc ds rest, LcC Y D σ ρ1 H1 Hh ρj τj acc (ds0 ++ ds) ∧ L2.wipe τj us = L2.wipe σ2 us ∧ each2 us f (xs2.drop j) ρj = .ok rest ρt ∧ ds ++ rest = ys2 ∧ Keep (cut H5 (Ex_ (Y.plus D) ρc σ2)) (cut Hh (Ex_ (Y.plus D) ρj τj)) ∧ ∀ a, OwnAt ρj τj a → OwnAt ρc σ2 a
/-- one of the outer turns' states -/
def OutP (Y : Yc) (D : Addr) (σ : L2.St) (ρ1 : Env) (H1 : Hp) (vs : List Nat) (f : Ty.D → M (Option Ty.D)) (xs yall : List Ty.D) (ρe : Env) (i : Nat) (Hh : Hp) : Prop :=
  ∃ ρi acc ds rest, LcC Y D σ ρ1 H1 Hh ρi (L2.wipe σ vs) acc ds ∧ each vs f (xs.drop i) ρi = .ok rest ρe ∧ ds ++ flatD rest = yall
theorem lc2_read {tgt tgt2 : Tg} {it it2 : It} {ts2 : Exs} {vs us : List Nat} {Q : VK} (ht : TbOk Z.tb) (hn : ∀ i ∈ tgN tgt, i ∈ vs) (hn2 : ∀ i ∈ tgN tgt2, i ∈ us) (hs : ∀ i ∈ us, i ∈ vs) (o : Of Z Y) (h : tM Y (ev Φ P (.comp2 vs us tgt it ts tgt2 it2 ts2 t)) σ H Q) :
    tLc2 (aI Z (evI Φ P it)) (aG Z tgt) (aT Z (evC Φ P ts)) (aI Z (evI Φ P it2)) (aG Z tgt2) (aT Z (evC Φ P ts2)) (aM Z (ev Φ P t)) vs us σ H Q := by
  have htY : TbOk Y.tb := by rw [o.2]; exact ht
  rw [ev] at h
  obtain ⟨ρ, r, ρ', R, e, k⟩ := tM_of h
  obtain ⟨xs, ρ1, e1, e2⟩ := bnd_ok e
  obtain ⟨yss, ρ2, e3, e4⟩ := bnd_ok e2
  obtain ⟨_, ρ3, e5, e6⟩ := bnd_ok e4
  obtain ⟨hfew, rfl⟩ := fewD_ok e5
  cases e6
  obtain ⟨ρe, n1, er, ne, rfl⟩ := blk_ok e3
  generalize hf : (fun x => bnd (setTg tgt (x, false)) fun _ => bnd (evC Φ P ts) fun k => if k = true then bnd (evI Φ P it2) fun xs2 => bnd (each2 us (fun x => bnd (setTg tgt2 (x, false)) fun _ => bnd (evC Φ P ts2) fun k =>
        if k then bnd (ev Φ P t) fun r => ret (some r.1) else ret none) xs2) fun ys => ret (some (PyData.list ys)) else ret none) = F
  have er' : each vs F (xs.drop 0) (wipeE ρ1 vs) = .ok yss ρe := by rw [← hf]; exact er
  refine ⟨Y, o, ρ, R, ?_⟩
  rw [e1]
  intro J H1 P1 G D hD
  refine ⟨fun i m Hh => m = xs.length - i ∧ i ≤ xs.length ∧ OutP Y D σ ρ1 H1 vs F xs (flatD yss) ρe i Hh, ⟨xs.length, rfl, Nat.zero_le _, wipeE ρ1 vs, [], [], yss, ?_, er', rfl⟩, ?_⟩
  · have R0 : RepE (Y.plus D) (wipeE ρ1 vs) (L2.wipe σ vs) (upd H1 D (.lst [])) := (P1.rep.plus hD htY).wipe n1
    exact ⟨R0, .refl, fun a z => (own_wipe n1).mp z, upd_same, .nil, lent_wipe n1⟩
  · rintro i m Hh ⟨rfl, hi, ρi, acc, ds, rest, L, hrun, heq⟩
    obtain ⟨g1, g2, g3⟩ := G Hh _ (L.keep hD) fun a z => L.rep.exTr z
    have oD : Of Z (Y.plus D) := o
    by_cases hlt : i < xs.length
    · refine .inr ⟨g1 i hlt, OutP Y D σ ρ1 H1 vs F xs (flatD yss) ρe (i + 1), fun H' p => ⟨xs.length - (i + 1), by omega, rfl, hlt, p⟩, fun x H' y => ?_⟩
      obtain ⟨d, hd, rd, hH⟩ := g3 i x H' hlt y
      have hdr : xs.drop i = d :: xs.drop (i + 1) := by
        rw [(List.drop_eq_getElem_cons hlt)]
        rw [List.getElem?_eq_getElem hlt] at hd
        rw [Option.some.inj hd]
      rw [hdr] at hrun
      obtain ⟨yo, ρt, zs, f1, no, f2, f3⟩ := each_cons hrun
      rw [← hf] at f1
      obtain ⟨_, ρa, s1, s2⟩ := bnd_ok f1
      obtain ⟨b, ρb, s3, s4⟩ := bnd_ok s2
      have Py : Post (Y.plus D) ρi ρi (L2.wipe σ vs) Hh H' := yield_post (K := Y.K) (x := x) (d := d) htY L.rep hH
      refine ⟨Y.plus D, oD, ρi, d, ρa, Py.rep, rd, s1, fun σ2 Pg hsame hlen => ?_⟩
      have hw : L2.wipe σ2 vs = L2.wipe σ vs := (wipe_same hlen fun j hj => hsame j fun z => hj (hn j z)).trans (wipe_wipe σ vs)
      refine ⟨hw, Y.plus D, oD, tT_mk Pg.rep s3 fun H3 P3 => ?_⟩
      have L3 := L.step P1.rep hD ((Py.s.trans Pg).trans P3.s) fun a z => Pg.strong a (P3.sub a z)
      cases b with
      | false =>
        rw [if_neg (by simp)] at s4 ⊢
        cases s4
        have f3' : rest = zs := f3
        subst f3'
        exact ⟨_, acc, ds, rest, hw ▸ L3.wipe P1.rep hD no, f2, heq⟩
      | true =>
        rw [if_pos rfl] at s4 ⊢
        obtain ⟨xs2, ρc, s5, s6⟩ := bnd_ok s4
        obtain ⟨ys2, ρd, s7, s8⟩ := bnd_ok s6
        cases s8
        have f3' : rest = .list ys2 :: zs := f3
        have hflat : ds ++ (ys2 ++ flatD zs) = flatD yss := by rw [← heq, f3']; rfl
        refine ⟨Y.plus D, oD, ρb, P3.rep, ?_⟩
        rw [s5]
        intro J1 H5 P5 G5
        have L5 := L3.step P1.rep hD P5.s P5.sub
        generalize hf2 : (fun x => bnd (setTg tgt2 (x, false)) fun _ => bnd (evC Φ P ts2) fun k => if k = true then bnd (ev Φ P t) fun r => ret (some r.1) else ret none) = F2
        have s7' : each2 us F2 (xs2.drop 0) ρc = .ok ys2 ρt := by rw [← hf2]; exact s7
        refine ⟨fun j k Hx => k = xs2.length - j ∧ j ≤ xs2.length ∧ InnP Y D σ ρ1 H1 us σ2 H5 ρc F2 xs2 ys2 ds ρt j Hx, ⟨xs2.length, rfl, Nat.zero_le _, ρc, σ2, acc, [], ys2, ?_, rfl, s7', rfl, fun _ _ h _ => h, fun _ h => h⟩, ?_⟩
        · rw [List.append_nil]; exact L5
        · rintro j m2 Hx ⟨rfl, hj, ρj, τj, acc2, ds2, rest2, L6, hτ, hrun2, heq2, kp, hown⟩
          obtain ⟨i1, i2, i3⟩ := G5 Hx _ kp fun a z => L6.rep.exTr z
          by_cases hlt2 : j < xs2.length
          · refine .inr ⟨i1 j hlt2, InnP Y D σ ρ1 H1 us σ2 H5 ρc F2 xs2 ys2 ds ρt (j + 1), fun H' p => ⟨xs2.length - (j + 1), by omega, rfl, hlt2, p⟩, fun x2 H6 y2 => ?_⟩
            obtain ⟨d2, hd2, rd2, hH2⟩ := i3 j x2 H6 hlt2 y2
            have hdr2 : xs2.drop j = d2 :: xs2.drop (j + 1) := by
              rw [List.drop_eq_getElem_cons hlt2]
              rw [List.getElem?_eq_getElem hlt2] at hd2
              rw [Option.some.inj hd2]
            rw [hdr2] at hrun2
            obtain ⟨no2, yo2, ρu, zs2, u1, u2, u3⟩ := each2_cons hrun2
            rw [← hf2] at u1
            obtain ⟨_, ρv, v1, v2⟩ := bnd_ok u1
            obtain ⟨b2, ρw, v3, v4⟩ := bnd_ok v2
            have W0 : PostS (Y.plus D) ρj (wipeE ρj us) τj (L2.wipe τj us) Hx Hx := .wipe L6.rep no2
            have L7 := L6.wipe P1.rep hD no2
            have Py2 : Post (Y.plus D) (wipeE ρj us) (wipeE ρj us) (L2.wipe τj us) Hx H6 := yield_post (K := Y.K) (x := x2) (d := d2) htY L7.rep hH2
            have rd3 : Rp Y.K (cut H6 (Ex_ (Y.plus D) (wipeE ρj us) (L2.wipe τj us))) x2 d2 := rd2.mono (cut_sub fun a z => z.elim .inl fun q => .inr ((own_wipe no2).mp q))
            rw [hτ] at Py2 rd3 L7 W0
            refine ⟨Y.plus D, oD, wipeE ρj us, d2, ρv, Py2.rep, rd3, v1, fun σ3 Pg2 hsame2 hlen2 => ?_⟩
            have hw2 : L2.wipe σ3 us = L2.wipe σ2 us := (wipe_same hlen2 fun j hj => hsame2 j fun z => hj (hn2 j z)).trans (wipe_wipe σ2 us)
            refine ⟨hw2, Y.plus D, oD, tT_mk Pg2.rep v3 fun H7 P7 => ?_⟩
            have Q7 : PostS (Y.plus D) (wipeE ρj us) ρw (L2.wipe σ2 us) σ3 Hx H7 := (Py2.s.trans Pg2).trans P7.s
            have q7 : ∀ a, OwnAt ρw σ3 a → OwnAt (wipeE ρj us) (L2.wipe σ2 us) a := fun a z => Pg2.strong a (P7.sub a z)
            have own7 : ∀ a, OwnAt ρw σ3 a → OwnAt ρc σ2 a := fun a z => hown a ((own_wipe (σ := τj) no2).mp (hτ ▸ q7 a z))
            have L8 := L7.step P1.rep hD Q7 q7
            have kp8 := (kp.trans W0.keep).trans Q7.keep
            cases b2 with
            | true =>
              rw [if_pos rfl] at v4 ⊢
              obtain ⟨r9, ρx, v5, v6⟩ := bnd_ok v4
              cases v6
              refine ⟨Y.plus D, oD, tM_mk P7.rep v5 fun v H8 P8 r8 => ⟨acc2, ?_⟩⟩
              have L9 := L8.step P1.rep hD P8.s P8.sub
              have u3' : rest2 = r9.1 :: zs2 := u3
              have la := L6.rp.length
              have lt : acc2.length < sizeLine := by
                have z1 : (flatD yss).length ≤ 1000000 := hfew
                rw [← hflat, ← heq2, u3'] at z1
                simp only [List.length_append, List.length_cons] at z1 la
                rw [sizeLine_eq]; omega
              refine ⟨L9.at_, lt, _, σ3, acc2 ++ [v], ds2 ++ [r9.1], zs2, ?_, hw2, u2, ?_, ?_, fun a z => own7 a (P8.sub a z)⟩
              · have z := L9.push htY P1.rep hD (v := v) (d := r9.1) r8.rp
                rw [List.append_assoc] at z
                exact z
              · rw [List.append_assoc, List.singleton_append, ← u3']; exact heq2
              · refine (kp8.trans P8.keep).trans fun a o e _ => ?_
                obtain ⟨e1, e2⟩ := cut_some.mp e
                have ne : a ≠ D := fun z => e2 (plus_ex.mpr (.inr z))
                exact cut_some.mpr ⟨by rw [upd_ne ne]; exact e1, e2⟩
            | false =>
              rw [if_neg (by simp)] at v4 ⊢
              cases v4
              have u3' : rest2 = zs2 := u3
              subst u3'
              exact ⟨_, σ3, acc2, ds2, rest2, L8, hw2, u2, heq2, kp8, own7⟩
          · have ej : j = xs2.length := by omega
            subst ej
            rw [List.drop_length] at hrun2
            have ee : ρj = ρt ∧ rest2 = [] := by cases hrun2; exact ⟨rfl, rfl⟩
            obtain ⟨rfl, rfl⟩ := ee
            have hy2 : ds2 = ys2 := by rw [← heq2]; exact (List.append_nil ds2).symm
            subst hy2
            refine .inl ⟨i2, wipeE ρj vs, acc2, ds ++ ds2, zs, ?_, f2, ?_⟩
            · have z := L6.wipe P1.rep hD no
              rw [wipe_more hτ hs, hw] at z
              exact z
            · rw [List.append_assoc]; exact hflat
    · have ei : i = xs.length := by omega
      subst ei
      rw [List.drop_length] at hrun
      have ee : ρi = ρe ∧ rest = [] := by cases hrun; exact ⟨rfl, rfl⟩
      obtain ⟨rfl, rfl⟩ := ee
      have he : ds = flatD yss := by rw [← heq]; exact (List.append_nil ds).symm
      subst he
      obtain ⟨z1, z2⟩ := L.done P1.rep hD n1 ne (wipe_wipe σ vs)
      exact .inl ⟨g2, k _ Hh (P1.trans z1) (z2.back P1.none)⟩
theorem m_comp2 {own : List (Str × Nat)} {us : List Nat} {scope : Scope} {tgt tgt2 : Tg} {it it2 : It} {ts2 : Exs} (c : Cd X Z) (hi : eI X Z tg iter (evI Φ P it)) (ok : BlkOk X.N X.env.scope scope own)
    (hg : ∀ (s : Shared) (H : Hp) (C : Addr) (cl : List (Str × Addr)) (fp : List Addr), eG (X.blk s H scope (compEnvC scope cl C X.env) fp) Z tg tgt) (ht : ∀ (s : Shared) (H : Hp) (C : Addr) (cl : List (Str × Addr)) (fp : List Addr), eTs (X.blk s H scope (compEnvC scope cl C X.env) fp) Z ifs (evC Φ P ts))
    (hi2 : ∀ (s : Shared) (H : Hp) (C : Addr) (cl : List (Str × Addr)) (fp : List Addr), eI (X.blk s H scope (compEnvC scope cl C X.env) fp) Z tg1 iter1 (evI Φ P it2))
    (hg2 : ∀ (s : Shared) (H : Hp) (C : Addr) (cl : List (Str × Addr)) (fp : List Addr), eG (X.blk s H scope (compEnvC scope cl C X.env) fp) Z tg1 tgt2) (ht2 : ∀ (s : Shared) (H : Hp) (C : Addr) (cl : List (Str × Addr)) (fp : List Addr), eTs (X.blk s H scope (compEnvC scope cl C X.env) fp) Z ifs1 (evC Φ P ts2))
    (he : ∀ (s : Shared) (H : Hp) (C : Addr) (cl : List (Str × Addr)) (fp : List Addr), eM (X.blk s H scope (compEnvC scope cl C X.env) fp) Z elt (ev Φ P t)) (hn : ∀ i ∈ tgN tgt, i ∈ own.map (·.2) := by decide) (hn2 : ∀ i ∈ tgN tgt2, i ∈ us := by decide) (hu : ∀ i ∈ us, i ∈ own.map (·.2) := by decide)
    (hs : ∀ x, foldedSetIterable iter X.env x = pure x := by intro _; rfl) (hs1 : ∀ env x, foldedSetIterable iter1 env x = pure x := by intro _ _; rfl) :
    eM X Z (.ListComp elt [⟨tg, iter, ifs, 0⟩, ⟨tg1, iter1, ifs1, 0⟩] scope pos) (ev Φ P (.comp2 (own.map (·.2)) us tgt it ts tgt2 it2 ts2 t)) := fun Y o =>
  pe_imp (pe_lc2 c.calm c.nd (pi_a hi) ok hu (fun s H C cl fp => pg_a (hg s H C cl fp)) (fun s H C cl fp => pts_a (ht s H C cl fp)) (fun s H C cl fp => pi_a (hi2 s H C cl fp)) (fun s H C cl fp => pg_a (hg2 s H C cl fp)) (fun s H C cl fp => pts_a (ht2 s H C cl fp))
    (fun s H C cl fp => pe_a (he s H C cl fp)) hs hs1) fun σ H Q h => lc2_read c.ht hn hn2 hu o h
end
end Ty
set_option autoImplicit false
set_option maxHeartbeats 200000
/-! T6: statements. -/
namespace Ty
open PySem.Spec PyProof.Rows L2 PySem
inductive SO where
  | nx (ρ : Env)
  | rt (r : R) (ρ : Env)
  | bk (ρ : Env)
  | ct (ρ : Env)
  | bad
def ofM (m : M Unit) : Env → SO := fun ρ => match m ρ with
  | .ok _ ρ' => .nx ρ'
  | .bad => .bad
def retM (m : M R) : Env → SO := fun ρ => match m ρ with
  | .ok r ρ' => .rt r ρ'
  | .bad => .bad
def forL (t : Tg) (b : Env → SO) : List D → Env → SO
  | [], ρ => .nx ρ
  | x :: xs, ρ => match setTg t (x, false) ρ with
    | .ok _ ρ1 => (match b ρ1 with
      | .nx ρ2 => forL t b xs ρ2
      | .ct ρ2 => forL t b xs ρ2
      | .bk ρ2 => .nx ρ2
      | .rt r ρ2 => .rt r ρ2
      | .bad => .bad)
    | .bad => .bad
def whL (c : M Bool) (b : Env → SO) : Nat → Env → SO
  | 0, _ => .bad
  | n + 1, ρ => match c ρ with
    | .ok true ρ1 => (match b ρ1 with
      | .nx ρ2 => whL c b n ρ2
      | .ct ρ2 => whL c b n ρ2
      | .bk ρ2 => .nx ρ2
      | .rt r ρ2 => .rt r ρ2
      | .bad => .bad)
    | .ok false ρ1 => .nx ρ1
    | .bad => .bad
/-- a list of its own is returned -/
def giveVar (i : Nat) : M R := fun ρ => match ρ[i]? with
  | some (some (.own false (.list ds))) => .ok (.list ds, true) (ρ.set i none)
  | _ => rdVar i ρ
def evR (Φ : Fns) (P : Pars) : Ex → M R
  | .var i => giveVar i
  | e => ev Φ P e
def isLst (i : Nat) : M Unit := fun ρ => match ρ[i]? with
  | some (some (.own _ (.list _))) => .ok () ρ
  | _ => .bad
def appAt (i : Nat) (d : D) : M Unit := fun ρ => match ρ[i]? with
  | some (some (.own b (.list ds))) => if ds.length < 1000000 then .ok () (ρ.set i (some (.own b (.list (ds ++ [d]))))) else .bad
  | _ => .bad
def putAt (i : Nat) (k d : D) : M Unit := fun ρ => match ρ[i]?, k with
  | some (some (.own b (.list ds))), .int z => (match ixNat ds.length z with
    | some j => .ok () (ρ.set i (some (.own b (.list (ds.set j d)))))
    | none => .bad)
  | _, _ => .bad
def intR (r : R) : M Unit := fun ρ => match r with
  | (.int _, false) => .ok () ρ
  | _ => .bad
mutual
def ex (Φ : Fns) (P : Pars) : Sm → Env → SO
  | .asg t e => ofM (bnd (ev Φ P e) (setTg t))
  | .par i j a b => ofM (bnd (ev Φ P a) fun r => bnd (ev Φ P b) fun r' => bnd (setVar i (r.1, false)) fun _ => setVar j r')
  | .par3 i j l a b c => ofM (bnd (ev Φ P a) fun r => bnd (ev Φ P b) fun r' => bnd (ev Φ P c) fun r'' => bnd (setVar i (r.1, false)) fun _ => bnd (setVar j (r'.1, false)) fun _ => setVar l (r''.1, false))
  | .aug i p e => ofM (bnd (rdOpd i) fun x => bnd (evO Φ P e) fun y => bnd (prim p [x, y]) fun r => bnd (intR r) fun _ => setVar i r)
  | .put i k e => ofM (bnd (ev Φ P e) fun r => bnd (isLst i) fun _ => bnd (ev Φ P k) fun r' => putAt i r'.1 r.1)
  | .app i e => ofM (bnd (isLst i) fun _ => bnd (ev Φ P e) fun r => appAt i r.1)
  | .exp e => ofM (bnd (ev Φ P e) fun _ => ret ())
  | .ret e => retM (evR Φ P e)
  | .retN => fun ρ => .rt (.none, false) ρ
  | .ifs c a b => fun ρ => match tst Φ P c ρ with
    | .ok true ρ' => exs Φ P a ρ'
    | .ok false ρ' => exs Φ P b ρ'
    | .bad => .bad
  | .for t it b => fun ρ => match evI Φ P it ρ with
    | .ok xs ρ' => forL t (exs Φ P b) xs ρ'
    | .bad => .bad
  | .whl c b => whL (tst Φ P c) (exs Φ P b) 1000000
  | .brk => fun ρ => .bk ρ
  | .cnt => fun ρ => .ct ρ
  | .pass => fun ρ => .nx ρ
  | .rais => fun _ => .bad
def exs (Φ : Fns) (P : Pars) : Sms → Env → SO
  | .nil => fun ρ => .nx ρ
  | .cons s ss => fun ρ => match ex Φ P s ρ with
    | .nx ρ' => exs Φ P ss ρ'
    | o => o
end

/-! ### what a statement promises -/
/-- a value that leaves the def -/
def ResR (Y : Yc) (ρ : Env) (σ : L2.St) (H' : Hp) (r : R) (v : V) : Prop := match r with
  | (d, false) => Rp Y.K (cut H' Y.O) v d
  | (d, true) => ∃ p xs ds, v = .ref p ∧ d = .list ds ∧ ¬ Y.T p ∧ H' p = some (.lst xs) ∧ RpAll Y.K (cut H' fun a => Y.O a ∨ a = p) xs ds ∧ RepE (Y.plus p) ρ σ H'
def SOk (Y : Yc) (D : Ends) (ρ : Env) (σ : L2.St) (H : Hp) : SO → Prop
  | .nx ρ' => ∀ σ' H', PostS Y ρ ρ' σ σ' H H' → D.nx σ' H'
  | .bk ρ' => ∀ σ' H', PostS Y ρ ρ' σ σ' H H' → D.bk σ' H'
  | .ct ρ' => ∀ σ' H', PostS Y ρ ρ' σ σ' H H' → D.ct σ' H'
  | .rt r ρ' => ∀ v σ' H', PostS Y ρ ρ' σ σ' H H' → ResR Y ρ' σ' H' r v → D.rt v H'
  | .bad => False
def tS (Y : Yc) (x : Env → SO) : TS := fun D σ H => ∃ ρ, RepE Y ρ σ H ∧ SOk Y D ρ σ H (x ρ)
def eS (X : Cx) (Z : Zc) (s : Stmt) (x : Env → SO) : Prop := ∀ Y, Of Z Y → PS X s (tS Y x)
def eSs (X : Cx) (Z : Zc) (s : List Stmt) (x : Env → SO) : Prop := ∀ Y, Of Z Y → PSs X s (tS Y x)
section
variable {X : Cx} {Z : Zc} {Y : Yc} {Φ : Fns} {P : Pars} {e e1 e2 e3 tg iter : Expr} {pos p p2 p3 tpos : Pos} {t t1 t2 t3 : Ex} {ts : Exs} {ρ ρ' ρ'' : Env} {σ σ' : L2.St} {H H' : Hp} {D D' : Ends} {o : SO}
/-- further on from a later state -/
theorem SOk.from (P1 : PostS Y ρ ρ' σ σ' H H') (h : SOk Y D ρ σ H o) : SOk Y D ρ' σ' H' o := by
  cases o with
  | nx r => exact fun σ2 H2 Q => h σ2 H2 (P1.trans Q)
  | bk r => exact fun σ2 H2 Q => h σ2 H2 (P1.trans Q)
  | ct r => exact fun σ2 H2 Q => h σ2 H2 (P1.trans Q)
  | rt r _ => exact fun v σ2 H2 Q z => h v σ2 H2 (P1.trans Q) z
  | bad => exact h
theorem ofM_ok {m : M Unit} (h : SOk Y D ρ σ H (ofM m ρ)) : ∃ ρ', m ρ = .ok () ρ' ∧ ∀ σ' H', PostS Y ρ ρ' σ σ' H H' → D.nx σ' H' := by
  unfold ofM at h
  cases e : m ρ with
  | ok a ρ' => rw [e] at h; exact ⟨ρ', rfl, h⟩
  | bad => rw [e] at h; exact h.elim
/-! ### blocks of statements -/
theorem b_nil : eSs X Z [] (exs Φ P .nil) := fun Y o => pss_imp pss_nil fun D σ H ⟨ρ, R, h⟩ => by
  rw [exs] at h
  exact h σ H (.refl R)
theorem b_cons {s : Stmt} {ss : List Stmt} {a : Sm} {as : Sms} (h1 : eS X Z s (ex Φ P a)) (h2 : eSs X Z ss (exs Φ P as)) : eSs X Z (s :: ss) (exs Φ P (.cons a as)) := fun Y o => pss_imp (pss_cons (h1 Y o) (h2 Y o)) fun D σ H ⟨ρ, R, h⟩ => by
  rw [exs] at h
  refine ⟨ρ, R, ?_⟩
  cases e : ex Φ P a ρ with
  | nx ρ' =>
    simp only [e] at h
    exact fun σ' H' Q => ⟨ρ', Q.rep, h.from Q⟩
  | bk ρ' => simp only [e] at h; exact h
  | ct ρ' => simp only [e] at h; exact h
  | rt r ρ' => simp only [e] at h; exact h
  | bad => simp only [e] at h; exact h
/-! ### plain statements -/
theorem s_pass : eS X Z (.Pass pos) (ex Φ P .pass) := fun Y o => ps_imp ps_pass fun D σ H ⟨ρ, R, h⟩ => by rw [ex] at h; exact h σ H (.refl R)
theorem s_brk : eS X Z (.Break pos) (ex Φ P .brk) := fun Y o => ps_imp ps_break fun D σ H ⟨ρ, R, h⟩ => by rw [ex] at h; exact h σ H (.refl R)
theorem s_cnt : eS X Z (.Continue pos) (ex Φ P .cnt) := fun Y o => ps_imp ps_continue fun D σ H ⟨ρ, R, h⟩ => by rw [ex] at h; exact h σ H (.refl R)
theorem s_rais {s : Stmt} : eS X Z s (ex Φ P .rais) := fun Y o => ps_imp ps_never fun D σ H ⟨ρ, R, h⟩ => by rw [ex] at h; exact h.elim
theorem s_exp (h : eM X Z e (ev Φ P t)) (hs : swapsWith e none pos.line X.env = pure false := by rfl) : eS X Z (.Expr e pos) (ex Φ P (.exp t)) := fun Y o => ps_imp (ps_expr (h Y o) hs) fun D σ H ⟨ρ, R, h⟩ => by
  rw [ex] at h
  obtain ⟨ρ', e1, q⟩ := ofM_ok h
  obtain ⟨r, ρ1, e2, e3⟩ := bnd_ok e1
  cases e3
  exact tM_mk R e2 fun v H1 P1 _ => q σ H1 P1.s
theorem s_doc {x : Str} {j : Nat} {p' : Pos} : eS X Z (.Expr (.Constant (.str x) j pos) p') (ex Φ P .pass) := fun Y o => ps_imp ps_doc fun D σ H ⟨ρ, R, h⟩ => by rw [ex] at h; exact h σ H (.refl R)
theorem asg_read {i : Nat} {te : TE} (hte : ∀ σ H Q, tM Y (ev Φ P t) σ H Q → te σ H Q) (h : tS Y (ex Φ P (.asg (.nm i) t)) D σ H) : tAsg te (gName i) D σ H := by
  obtain ⟨ρ, R, h⟩ := h
  rw [ex] at h
  obtain ⟨ρ', e1, q⟩ := ofM_ok h
  obtain ⟨r, ρ1, e2, e3⟩ := bnd_ok e1
  refine hte σ H _ (tM_mk R e2 fun v H1 P1 r1 => ?_)
  replace e3 : setVar i r ρ1 = .ok () ρ' := e3
  obtain ⟨h1, h2⟩ := P1.rep.set r1 R.trk e3
  refine q _ H1 ⟨h1, P1.frm, fun a z => (h2 a z).elim (fun w => .inl (P1.sub a w)) .inr, P1.par.trans (lent_var e3), fun j d z => ?_⟩
  obtain ⟨d', z'⟩ := P1.par j d z
  exact pos_var e3 j d' z'
theorem s_set {i : Nat} {x : Str} (c : Cd X Z) (h : eM X Z e (ev Φ P t)) (hi : X.N[i]? = some x := by rfl) (hx : Loc X.env.scope x := by first | exact Or.inl rfl | exact Or.inr rfl) (hs : swapsWith e (some (.Name x p)) pos.line X.env = pure false := by rfl)
    (hf : X.fn x = true ∨ X.env.scope.names.lookup x = some .local := by first | exact .inl rfl | exact .inr rfl) : eS X Z (.Assign [.Name x p] e pos) (ex Φ P (.asg (.nm i) t)) := fun Y o =>
  ps_imp (ps_set c.nd hi hx (h Y o) hs hf) fun D σ H h => asg_read (fun _ _ _ h => h) h
theorem s_tup {is : List Nat} (h : eM X Z e (ev Φ P t)) (hg : eG X Z tg (.tp is)) (hs : swapsWithSole [tg] e pos.line X.env = pure false := by rfl) (hw : swappedStores [tg] e X.env = pure none := by rfl)
    (h1 : (assignEach [tg] X.env).map (·.2) = [assign tg X.env] := by rfl) : eS X Z (.Assign [tg] e pos) (ex Φ P (.asg (.tp is) t)) := fun Y o =>
  ps_imp (ps_asg (h Y o) (hg Y o) hs hw h1) fun D σ H ⟨ρ, R, h⟩ => by
    rw [ex] at h
    obtain ⟨ρ', e1, q⟩ := ofM_ok h
    obtain ⟨r, ρ1, e2, e3⟩ := bnd_ok e1
    refine tM_mk R e2 fun v H1 P1 r1 => ⟨ρ1, r.1, ρ', P1.rep, r1.rp, ?_, fun σ' Q _ _ => q σ' H1 (P1.s.trans Q)⟩
    exact e3
theorem ofB {b : Bool} {m : M Bool} {a1 a2 : Env → SO} (h : SOk Y D ρ σ H (match m ρ with | .ok true ρ' => a1 ρ' | .ok false ρ' => a2 ρ' | .bad => .bad)) : ∃ c ρ', m ρ = .ok c ρ' ∧ SOk Y D ρ σ H (if c = true then a1 ρ' else a2 ρ') := by
  cases e : m ρ with
  | ok c ρ' =>
    rw [e] at h
    refine ⟨c, ρ', rfl, ?_⟩
    cases c
    · exact h
    · exact h
  | bad => rw [e] at h; exact h.elim
theorem s_if {c : Expr} {a b : List Stmt} {tc : Ex} {sa sb : Sms} (hc : eT X Z c (tst Φ P tc)) (ha : eSs X Z a (exs Φ P sa)) (hb : eSs X Z b (exs Φ P sb)) : eS X Z (.If c a b pos) (ex Φ P (.ifs tc sa sb)) := fun Y o =>
  ps_imp (ps_if (hc Y o) (ha Y o) (hb Y o)) fun D σ H ⟨ρ, R, h⟩ => by
    rw [ex] at h
    obtain ⟨k, ρ1, e1, h1⟩ := ofB (b := true) h
    refine tT_mk R e1 fun H1 P1 => ?_
    cases k with
    | true => exact ⟨ρ1, P1.rep, h1.from P1.s⟩
    | false => exact ⟨ρ1, P1.rep, h1.from P1.s⟩
theorem s_retN : eS X Z (.Return none pos) (ex Φ P .retN) := fun Y o => ps_imp ps_retN fun D σ H ⟨ρ, R, h⟩ => by
  rw [ex] at h
  exact h .non σ H (.refl R) (show Rp _ _ _ _ from .non)
theorem resR_of {r : Ty.R} {v : V} {H0 : Hp} (hT : ∀ a, Y.T a → H0 a ≠ none) (h : ResV Y ρ σ H0 H r v) : ResR Y ρ σ H r v := by
  obtain ⟨d, nw⟩ := r
  cases nw with
  | false => exact (show Rp _ _ v d from h).mono (cut_sub fun a z => .inl z)
  | true =>
    obtain ⟨p, xs, ds, rfl, rfl, h0, h1, h2, h3, h4⟩ := h
    exact ⟨p, xs, ds, rfl, rfl, fun z => hT p z h0, h1, h3.mono (cut_sub fun a z => z.elim (fun q => .inl (.inl q)) fun q => .inl (.inr q)), h4⟩
theorem s_ret (h : eM X Z e (ev Φ P t)) (hn : ∀ i, t ≠ .var i := by intro _ z; cases z) : eS X Z (.Return (some e) pos) (ex Φ P (.ret t)) := fun Y o => ps_imp (ps_ret (h Y o)) fun D σ H ⟨ρ, R, h⟩ => by
  rw [ex] at h
  have he : evR Φ P t = ev Φ P t := by
    cases t <;> first | rfl | exact absurd rfl (hn _)
  rw [he] at h
  unfold retM at h
  cases e : ev Φ P t ρ with
  | bad => rw [e] at h; exact h.elim
  | ok r ρ' =>
    rw [e] at h
    exact tM_mk R e fun v H1 P1 r1 => h v σ H1 P1.s (resR_of R.trk r1)
end
end Ty
set_option autoImplicit false
set_option maxHeartbeats 200000
/-! T6b: return of a name, stores into lists, loops. -/
namespace Ty
open PySem.Spec PyProof.Rows L2 PySem
def aS (Z : Zc) (x : Env → SO) : TS := fun D σ H => ∃ Y, Of Z Y ∧ tS Y x D σ H
section
variable {X : Cx} {Z : Zc} {Y : Yc} {Φ : Fns} {P : Pars} {e e1 e2 e3 tg iter : Expr} {pos p p2 p3 tpos : Pos} {t t1 t2 t3 : Ex} {ts : Exs} {ρ ρ' ρ'' : Env} {σ σ' : L2.St} {H H' : Hp} {D D' : Ends} {o : SO}
theorem pss_a {ss : List Stmt} {x : Env → SO} (h : eSs X Z ss x) : PSs X ss (aS Z x) := ⟨fun pins s σ H D I ⟨Y, o, q⟩ => (h Y o).run pins s σ H D I q⟩
theorem pt_a {m : M Bool} (h : eT X Z e m) : PT X e (aT Z m) := ⟨fun pins s σ H Q I ⟨Y, o, q⟩ => (h Y o).run pins s σ H Q I q⟩
theorem own_none {i : Nat} {a : Addr} (z : OwnAt (ρ.set i none) σ a) : OwnAt ρ σ a := ownAt_set (by intro b d q; cases q) z
/-- a name holds nothing any more -/
theorem RepE.drop {i : Nat} (R : RepE Y ρ σ H) : RepE Y (ρ.set i none) σ H := by
  have k : Keep (cut H (Ex_ Y ρ σ)) (cut H (Ex_ Y (ρ.set i none) σ)) := cut_sub fun a z => z.elim .inl fun q => .inr (own_none q)
  have get : ∀ (j : Nat) (s : Sl), (ρ.set i none)[j]? = some (some s) → ρ[j]? = some (some s) := fun j s z => by
    by_cases q : i = j
    · subst q
      have w := get_set_eq z
      cases w
    · rw [List.getElem?_set_ne q] at z; exact z
  refine ⟨by simpa using R.len, fun j d e => ?_, fun j b d e => ?_, fun j j' b b' d d' a e1 e2 e3 e4 => R.inj j j' b b' d d' a (get _ _ e1) (get _ _ e2) e3 e4, R.sub, R.trk, R.tbs⟩
  · obtain ⟨v, h1, h2⟩ := R.fro j d (get _ _ e)
    exact ⟨v, h1, h2.mono k⟩
  · obtain ⟨a, h1, h2, h3⟩ := R.own j b d (get _ _ e)
    exact ⟨a, h1, h2.mono (fun _ h _ => h) k, h3⟩
/-- a name's own list is given away as new -/
theorem RepE.given {i : Nat} {d : Ty.D} {a : Addr} (R : RepE Y ρ σ H) (e : ρ[i]? = some (some (.own false d))) (ha : σ[i]? = some (some (.ref a))) : RepE (Y.plus a) (ρ.set i none) σ H := by
  have sub : ∀ x, Ex_ (Y.plus a) (ρ.set i none) σ x → Ex_ Y ρ σ x := fun x z => by
    rcases plus_ex.mp z with (z | z) | rfl
    · exact .inl z
    · exact .inr (own_none z)
    · exact .inr ⟨i, false, d, e, ha⟩
  have k : Keep (cut H (Ex_ Y ρ σ)) (cut H (Ex_ (Y.plus a) (ρ.set i none) σ)) := cut_sub sub
  have get : ∀ (j : Nat) (s : Sl), (ρ.set i none)[j]? = some (some s) → ρ[j]? = some (some s) ∧ i ≠ j := fun j s z => by
    by_cases q : i = j
    · subst q
      have w := get_set_eq z
      cases w
    · rw [List.getElem?_set_ne q] at z; exact ⟨z, q⟩
  obtain ⟨a', h1, hc, _, hT⟩ := R.own i false d e
  rw [ha] at h1
  cases h1
  obtain ⟨oo, hoo, _⟩ := hc.tr
  refine ⟨by simpa using R.len, fun j d e' => ?_, fun j b d' e' => ?_, fun j j' b b' d d' x e1 e2 e3 e4 => R.inj j j' b b' d d' x (get _ _ e1).1 (get _ _ e2).1 e3 e4, fun x z => z.elim (fun q => .inl (R.sub x q)) .inr, fun x z => ?_, R.tbs⟩
  · obtain ⟨v, z1, z2⟩ := R.fro j d (get _ _ e').1
    exact ⟨v, z1, z2.mono k⟩
  · obtain ⟨x, z1, z2, z3, z4⟩ := R.own j b d' (get _ _ e').1
    have ne : x ≠ a := fun q => (get _ _ e').2 (R.inj i j false b d d' a e (get _ _ e').1 ha (q ▸ z1))
    exact ⟨x, z1, z2.mono (fun _ h _ => h) k, fun q => .inl (z3 q), fun q w => w.elim (z4 q) ne⟩
  · rcases z with z | rfl
    · exact R.trk x z
    · rw [hoo]; exact fun w => by cases w
theorem giveVar_ok {i : Nat} {r : Ty.R} (h : giveVar i ρ = .ok r ρ') : (∃ ds, ρ[i]? = some (some (.own false (.list ds))) ∧ r = (.list ds, true) ∧ ρ' = ρ.set i none) ∨ rdVar i ρ = .ok r ρ' := by
  unfold giveVar at h
  split at h
  · rename_i ds hs
    cases h
    exact .inl ⟨ds, hs, rfl, rfl⟩
  · exact .inr h
theorem rdOpd_ok {i : Nat} {b : B} (R : RepE Y ρ σ H) (h : rdOpd i ρ = .ok b ρ') : ρ' = ρ ∧ ∃ v, σ[i]? = some (some v) ∧ ResB Y ρ σ H b v := by
  unfold rdOpd at h
  split at h
  · rename_i d hd
    cases h
    obtain ⟨v, h1, h2⟩ := R.fro i d hd
    exact ⟨rfl, v, h1, h2⟩
  · rename_i b d hd
    cases h
    obtain ⟨a, h1, h2⟩ := R.own i b d hd
    exact ⟨rfl, _, h1, h1⟩
  · cases h
theorem s_retV {i : Nat} {x : Str} (hN : X.N[i]? = some x := by rfl) (hv : Vis X.env.scope x := by first | exact Or.inl rfl | exact Or.inr (Or.inl rfl) | exact Or.inr (Or.inr rfl)) (hd : (x == ("__debug__" : Str)) = false := by decide)
    (hcd : (x == ("__classdict__" : Str)) = false := by decide) : eS X Z (.Return (some (.Name x p)) pos) (ex Φ P (.ret (.var i))) := fun Y o => ps_imp (ps_ret (pv i hN hv hd hcd)) fun D σ H ⟨ρ, R, h⟩ => by
  rw [ex] at h
  unfold retM at h
  cases e : evR Φ P (.var i) ρ with
  | bad => rw [e] at h; exact h.elim
  | ok r ρ' =>
    rw [e] at h
    have plain : rdVar i ρ = .ok r ρ' → tVar i σ H D.rt := fun e => im_var (tM_mk R e fun v H1 P1 r1 => h v σ H1 P1.s (resR_of R.trk r1))
    rcases giveVar_ok (show giveVar i ρ = .ok r ρ' from e) with ⟨ds, hs, rfl, rfl⟩ | e
    ·
      obtain ⟨a, h1, h2, h3, h4⟩ := R.own i false _ hs
      refine ⟨_, h1, h (.ref a) σ H ⟨R.drop, .refl, fun a z => .inl (own_none z), fun j d z => ?_, fun _ _ _ => rfl⟩ ?_⟩
      · have ne : i ≠ j := fun q => by subst q; rw [hs] at z; cases z
        exact ⟨d, by rw [List.getElem?_set_ne ne]; exact z⟩
      · rcases h2 with ⟨xs, ds', e', hH, r⟩ | ⟨ob, ks, xs, ds', e', _⟩
        · cases e'
          refine ⟨a, xs, ds, rfl, rfl, h4 rfl, hH, r.mono (cut_sub fun b z => ?_), R.given hs h1⟩
          rcases z with z | rfl
          · exact .inl z
          · exact .inr ⟨i, false, _, hs, h1⟩
        · cases e'
    · exact plain e
/-! ### augmented -/
theorem intR_ok {r : Ty.R} (h : intR r ρ = .ok () ρ') : ∃ k, r = (.int k, false) ∧ ρ' = ρ := by
  obtain ⟨d, n⟩ := r
  cases d <;> cases n <;> first | (cases h; exact ⟨_, rfl, rfl⟩) | cases h
/-- what comes is an int -/
def rDI (Y : Yc) (p : Prim) : V → V → Hp → VK → Prop := fun x y H Q => ∃ ρ σ d d' k nw, RepE Y ρ σ H ∧ Top Y.K H (Ex_ Y ρ σ) x d ∧ Top Y.K H (Ex_ Y ρ σ) y d' ∧ app p [d, d'] = some (.int k, nw) ∧ Q (.int k) H
theorem dI_of {f : Value → Value → Sem Value} {C : Int → Int → Prop} {g : Int → Int → V} {p : Prim} (h : OpR X f (rI C g))
    (hp : ∀ d e k nw, app p [d, e] = some (.int k, nw) → ∃ i j, d = .int i ∧ e = .int j ∧ C i j ∧ g i j = .int k) : OpR X f (rDI Y p) := by
  intro pins s σ H x y v u Q I rx ry z
  obtain ⟨ρ, σ', d, e, k, nw, R, t1, t2, ea, q⟩ := z
  obtain ⟨i, j, rfl, rfl, c, hg⟩ := hp d e k nw ea
  exact h pins s σ H x y v u Q I rx ry ⟨i, j, t1.int, t2.int, c, by rw [hg]; exact q⟩
theorem dI_of0 {f : Value → Value → Sem Value} {g : Int → Int → V} {p : Prim} (h : OpR X f (rI0 g))
    (hp : ∀ d e k nw, app p [d, e] = some (.int k, nw) → ∃ i j, d = .int i ∧ e = .int j ∧ g i j = .int k) : OpR X f (rDI Y p) := by
  intro pins s σ H x y v u Q I rx ry z
  obtain ⟨ρ, σ', d, e, k, nw, R, t1, t2, ea, q⟩ := z
  obtain ⟨i, j, rfl, rfl, hg⟩ := hp d e k nw ea
  exact h pins s σ H x y v u Q I rx ry ⟨i, j, t1.int, t2.int, by rw [hg]; exact q⟩
theorem di_add : OpR X (inplaceOp .Add) (rDI Y .add) := dI_of0 iop_add fun d e k nw h => by
  replace h : addD d e = some (.int k, nw) := h
  unfold addD at h
  split at h
  · cases h; exact ⟨_, _, rfl, rfl, rfl⟩
  · obtain ⟨_, h⟩ := ite_some h; cases h
  · obtain ⟨_, h⟩ := ite_some h; cases h
  · obtain ⟨_, h⟩ := ite_some h; cases h
  · cases h
theorem di_sub : OpR X (inplaceOp .Sub) (rDI Y .sub) := dI_of0 iop_sub fun d e k nw h => by
  obtain ⟨i, j, k', rfl, rfl, h1, h2⟩ := intD_of h
  cases h1; cases h2
  exact ⟨i, j, rfl, rfl, rfl⟩
theorem di_or : OpR X (inplaceOp .BitOr) (rDI Y .bor) := dI_of0 iop_or fun d e k nw h => by
  obtain ⟨i, j, k', rfl, rfl, h1, h2⟩ := intD_of h
  cases h1; cases h2
  exact ⟨i, j, rfl, rfl, rfl⟩
theorem di_and : OpR X (inplaceOp .BitAnd) (rDI Y .band) := dI_of0 iop_and fun d e k nw h => by
  obtain ⟨i, j, k', rfl, rfl, h1, h2⟩ := intD_of h
  cases h1; cases h2
  exact ⟨i, j, rfl, rfl, rfl⟩
theorem di_fdiv : OpR X (inplaceOp .FloorDiv) (rDI Y .fdiv) := dI_of iop_fdiv fun d e k nw h => by
  obtain ⟨i, j, k', rfl, rfl, h1, h2⟩ := intD_of h
  obtain ⟨c, rfl⟩ := ite_some h1
  cases h2
  simp only [Bool.and_eq_true, decide_eq_true_eq] at c
  exact ⟨i, j, rfl, rfl, c, rfl⟩
theorem s_aug {i : Nat} {x : Str} {op : Operator} {q : Prim} (c : Cd X Z) (ho : ∀ Y, Of Z Y → OpR X (inplaceOp op) (rDI Y q)) (h : eO X Z e (evO Φ P t)) (hi : X.N[i]? = some x := by rfl) (hx : Loc X.env.scope x := by first | exact Or.inl rfl | exact Or.inr rfl)
    (hf : X.fn x = true ∨ X.env.scope.names.lookup x = some .local := by first | exact .inl rfl | exact .inr rfl) : eS X Z (.AugAssign (.Name x p) op e pos) (ex Φ P (.aug i q t)) := fun Y o =>
  ps_imp (ps_aug c.nd hi hx (h Y o) (show PIp X op (rDI Y q) from ho Y o) hf) fun D σ H ⟨ρ, R, h⟩ => by
    rw [ex] at h
    obtain ⟨ρ', e1, k⟩ := ofM_ok h
    obtain ⟨b1, ρ1, f1, e2⟩ := bnd_ok e1
    obtain ⟨b2, ρ2, f2, e3⟩ := bnd_ok e2
    obtain ⟨r3, ρ3, f3, e4⟩ := bnd_ok e3
    obtain ⟨⟨⟩, ρ4, f4, e5⟩ := bnd_ok e4
    obtain ⟨kk, rfl, rfl⟩ := intR_ok f4
    obtain ⟨ds, g1, g2, rfl⟩ := prim_ok f3
    obtain ⟨da, ds', g3, g4, rfl⟩ := fetchC g1
    obtain ⟨db, g5, rfl⟩ := fetch1 g4
    obtain ⟨rfl, v, hv, r1⟩ := rdOpd_ok R f1
    refine ⟨v, hv, tO_mk R f2 fun u H2 P2 r2 => ⟨_, σ, da, db, kk, false, P2.rep, top_of P2.rep (P2.resB r1) g3, top_of P2.rep r2 g5, g2, ?_⟩⟩
    exact k _ _ (P2.s.trans (set_post P2.rep (.int kk) e5))
/-! ### a, b = x, y -/
theorem setVar_back {i : Nat} {r : Ty.R} (e : setVar i r ρ = .ok () ρ') : ρ'.length = ρ.length := by
  obtain ⟨_, rfl, _⟩ := setVar_ok e
  simp
theorem resV_over {i : Nat} {d : Ty.D} {r : Ty.R} {v w : V} {H1 H2 : Hp} (R2 : RepE Y ρ σ H2) (r1 : Rp Y.K (cut H1 (Ex_ Y ρ'' σ)) v d) (P2 : Post Y ρ'' ρ σ H1 H2) (r2 : ResV Y ρ σ H1 H2 r w) (e : setVar i (d, false) ρ = .ok () ρ') :
    ResV Y ρ' (σ.set i (some v)) H1 H2 r w := by
  have P3 := set_post R2 (P2.rp r1) e
  obtain ⟨d2, nw⟩ := r
  cases nw with
  | false => exact P3.rp (show Rp Y.K _ w d2 from r2)
  | true =>
    obtain ⟨q, xs, ds, rfl, rfl, h0, h1, h2, h3, R3⟩ := r2
    have sub : ∀ a, Ex_ Y ρ' (σ.set i (some v)) a → Ex_ Y ρ σ a := fun a z => z.elim .inl fun y => .inr (P3.strong a y)
    have rv : Rp Y.K (cut H2 (Ex_ (Y.plus q) ρ σ)) v d := r1.mono fun a o e' t => by
      obtain ⟨e1, ne⟩ := cut_some.mp e'
      have k := P2.keep a o (cut_some.mpr ⟨e1, ne⟩) t
      obtain ⟨k1, k2⟩ := cut_some.mp k
      refine cut_some.mpr ⟨k1, fun z => ?_⟩
      rcases plus_ex.mp z with z | rfl
      · exact k2 z
      · rw [h0] at e1; cases e1
    have P4 := set_post R3 rv e
    refine ⟨q, xs, ds, rfl, rfl, h0, h1, fun z => h2 (sub q z), h3.mono (cut_sub fun a z => ?_), P4.rep⟩
    exact z.elim .inl fun y => .inr (P4.strong a y)
theorem s_par {i j : Nat} {x y : Str} {kt k2 : Nat} {px py pt pt2 : Pos} (c : Cd X Z) (h1 : eM X Z e1 (ev Φ P t1)) (h2 : eM X Z e2 (ev Φ P t2)) (hi : X.N[i]? = some x := by rfl) (hj : X.N[j]? = some y := by rfl) (hij : i ≠ j := by decide)
    (hx : X.env.scope.names.lookup x = some .local := by rfl) (hy : X.env.scope.names.lookup y = some .local := by rfl) (hw : swappedStores [.Tuple [.Name x px, .Name y py] kt pt] (.Tuple [e1, e2] k2 pt2) X.env = pure (some [x, y]) := by rfl)
    (hs : swapsWithSole [.Tuple [.Name x px, .Name y py] kt pt] (.Tuple [e1, e2] k2 pt2) pos.line X.env = pure false := by rfl) (s1 : starEach (e1 :: [e2]) X.env = (false, eval e1 X.env) :: starEach [e2] X.env := by rfl) (s2 : starEach (e2 :: []) X.env = (false, eval e2 X.env) :: starEach [] X.env := by rfl) :
    eS X Z (.Assign [.Tuple [.Name x px, .Name y py] kt pt] (.Tuple [e1, e2] k2 pt2) pos) (ex Φ P (.par i j t1 t2)) := fun Y o =>
  ps_imp (ps_par c.calm c.nd hi hj hij hx hy (pa_cons (h1 Y o) (pa_cons (h2 Y o) pa_nil s2) s1) hw hs) fun D σ H ⟨ρ, R, h⟩ => by
    rw [ex] at h
    obtain ⟨ρ', e1, k⟩ := ofM_ok h
    obtain ⟨r1, ρ1, f1, e2⟩ := bnd_ok e1
    obtain ⟨r2, ρ2, f2, e3⟩ := bnd_ok e2
    obtain ⟨⟨⟩, ρ3, f3, f4⟩ := bnd_ok e3
    refine tM_mk R f1 fun v H1 P1 a1 => tM_mk P1.rep f2 fun w H2 P2 a2 => ⟨v, w, rfl, ?_⟩
    have P3 := set_post P2.rep (P2.rp a1.rp) f3
    have z := resV_over P2.rep a1.rp P2 a2 f3
    obtain ⟨g1, g2⟩ := P3.rep.set z P1.rep.trk f4
    have Q1 := (P1.trans P2).s.trans P3
    refine k _ H2 ⟨g1, Q1.frm, fun a y => ?_, Q1.par.trans (lent_var f4), fun l d q => ?_⟩
    · rcases g2 a y with y | y
      · exact Q1.sub a y
      · exact .inr (P1.none a y)
    · obtain ⟨d', q'⟩ := Q1.par l d q
      exact (pos_var f4 l d' q').trans (Q1.pos l d q)
theorem s_par3 {i j l : Nat} {x y z : Str} {kt k2 : Nat} {px py pz pt pt2 : Pos} (c : Cd X Z) (h1 : eM X Z e1 (ev Φ P t1)) (h2 : eM X Z e2 (ev Φ P t2)) (h3 : eM X Z e3 (ev Φ P t3)) (hi : X.N[i]? = some x := by rfl) (hj : X.N[j]? = some y := by rfl) (hl : X.N[l]? = some z := by rfl)
    (hij : i ≠ j := by decide) (hil : i ≠ l := by decide) (hjl : j ≠ l := by decide)
    (hx : X.env.scope.names.lookup x = some .local := by rfl) (hy : X.env.scope.names.lookup y = some .local := by rfl) (hz : X.env.scope.names.lookup z = some .local := by rfl)
    (hw : swappedStores [.Tuple [.Name x px, .Name y py, .Name z pz] kt pt] (.Tuple [e1, e2, e3] k2 pt2) X.env = pure (some [x, y, z]) := by rfl)
    (hs : swapsWithSole [.Tuple [.Name x px, .Name y py, .Name z pz] kt pt] (.Tuple [e1, e2, e3] k2 pt2) pos.line X.env = pure false := by rfl)
    (s1 : starEach (e1 :: [e2, e3]) X.env = (false, eval e1 X.env) :: starEach [e2, e3] X.env := by rfl) (s2 : starEach (e2 :: [e3]) X.env = (false, eval e2 X.env) :: starEach [e3] X.env := by rfl) (s3 : starEach (e3 :: []) X.env = (false, eval e3 X.env) :: starEach [] X.env := by rfl) :
    eS X Z (.Assign [.Tuple [.Name x px, .Name y py, .Name z pz] kt pt] (.Tuple [e1, e2, e3] k2 pt2) pos) (ex Φ P (.par3 i j l t1 t2 t3)) := fun Y o =>
  ps_imp (L2.ps_par3 c.calm c.nd hi hj hl hij hil hjl hx hy hz (pa_cons (h1 Y o) (pa_cons (h2 Y o) (pa_cons (h3 Y o) pa_nil s3) s2) s1) hw hs) fun D σ H ⟨ρ, R, h⟩ => by
    rw [ex] at h
    obtain ⟨ρ', e1, k⟩ := ofM_ok h
    obtain ⟨r1, ρ1, f1, e2⟩ := bnd_ok e1
    obtain ⟨r2, ρ2, f2, e3⟩ := bnd_ok e2
    obtain ⟨r3, ρ3, f3, e4⟩ := bnd_ok e3
    obtain ⟨⟨⟩, ρ4, f4, e5⟩ := bnd_ok e4
    obtain ⟨⟨⟩, ρ5, f5, f6⟩ := bnd_ok e5
    refine tM_mk R f1 fun v H1 P1 a1 => tM_mk P1.rep f2 fun w H2 P2 a2 => tM_mk P2.rep f3 fun u H3 P3 a3 => ⟨v, w, u, rfl, ?_⟩
    have P4 := set_post P3.rep (P3.rp (P2.rp a1.rp)) f4
    have P5 := set_post P4.rep (P4.rp (P3.rp a2.rp)) f5
    have P6 := set_post P5.rep (P5.rp (P4.rp a3.rp)) f6
    exact k _ H3 (((((P1.trans P2).trans P3).s.trans P4).trans P5).trans P6)
end
end Ty
set_option autoImplicit false
set_option maxHeartbeats 200000
/-! T6c: stores into lists, loops. -/
namespace Ty
open PySem.Spec PyProof.Rows L2 PySem
section
variable {X : Cx} {Z : Zc} {Y : Yc} {Φ : Fns} {P : Pars} {e e1 e2 e3 tg iter ec : Expr} {pos p p2 p3 tpos apos cpos : Pos} {t t1 t2 t3 : Ex} {ts : Exs} {ρ ρ' ρ'' : Env} {σ σ' : L2.St} {H H' : Hp} {D D' : Ends} {o : SO} {body : List Stmt} {b : Sms}
/-- a name's own object changes -/
theorem RepE.owner {i : Nat} {bb : Bool} {d d' : Ty.D} {a : Addr} {o' : HO} (ht : TbOk Y.tb) (R : RepE Y ρ σ H) (e : ρ[i]? = some (some (.own bb d))) (ha : σ[i]? = some (some (.ref a))) (hc : OwnC Y.K (upd H a o') (cut H (Ex_ Y ρ σ)) a d') :
    PostS Y ρ (ρ.set i (some (.own bb d'))) σ σ H (upd H a o') := by
  have hi : i < ρ.length := by
    rcases Nat.lt_or_ge i ρ.length with z | z
    · exact z
    · rw [List.getElem?_eq_none z] at e; cases e
  have oa : OwnAt ρ σ a := ⟨i, bb, d, e, ha⟩
  have oiff : ∀ x, OwnAt (ρ.set i (some (.own bb d'))) σ x → OwnAt ρ σ x := fun x ⟨j, b2, d2, h1, h2⟩ => by
    by_cases q : i = j
    · subst q
      rw [ha] at h2
      cases h2
      exact oa
    · rw [List.getElem?_set_ne q] at h1
      exact ⟨j, b2, d2, h1, h2⟩
  have oiff' : ∀ x, OwnAt ρ σ x → OwnAt (ρ.set i (some (.own bb d'))) σ x := fun x ⟨j, b2, d2, h1, h2⟩ => by
    by_cases q : i = j
    · subst q
      exact ⟨i, bb, d', List.getElem?_set_self hi, h2⟩
    · exact ⟨j, b2, d2, by rw [List.getElem?_set_ne q]; exact h1, h2⟩
  have k : Keep (cut H (Ex_ Y ρ σ)) (cut (upd H a o') (Ex_ Y (ρ.set i (some (.own bb d'))) σ)) := fun x ob e' _ => by
    obtain ⟨e1, ne⟩ := cut_some.mp e'
    have nx : x ≠ a := fun z => ne (.inr (z ▸ oa))
    exact cut_some.mpr ⟨by rw [upd_ne nx]; exact e1, fun z => ne (z.elim .inl fun q => .inr (oiff x q))⟩
  have other : ∀ (j : Nat) (b2 : Bool) (d2 : Ty.D) (x : Addr), i ≠ j → ρ[j]? = some (some (.own b2 d2)) → σ[j]? = some (some (.ref x)) → x ≠ a := fun j b2 d2 x ne e1 e2 z => ne (R.inj i j bb b2 d d2 a e e1 ha (z ▸ e2))
  obtain ⟨oo, hoo, hnt⟩ := R.ownTr oa
  refine ⟨⟨by simpa using R.len, fun j d2 e' => ?_, fun j b2 d2 e' => ?_, fun j j' b1 b2 d1 d2 x e1 e2 e3 e4 => ?_, R.sub, fun x z => ?_, ht H _ R.tbs fun x ob e' q => ?_⟩, ⟨fun x ob e' n _ => ?_, fun x n => ?_⟩, fun x z => .inl (oiff x z), fun j d2 e' => ?_, fun _ _ _ => rfl⟩
  · by_cases q : i = j
    · subst q
      have w := get_set_eq e'
      cases w
    · rw [List.getElem?_set_ne q] at e'
      obtain ⟨v, h1, h2⟩ := R.fro j d2 e'
      exact ⟨v, h1, h2.mono k⟩
  · by_cases q : i = j
    · subst q
      have w := get_set_eq e'
      cases w
      obtain ⟨a', h1, _, h3⟩ := R.own i bb d e
      rw [ha] at h1
      cases h1
      exact ⟨a, ha, hc.mono (fun _ h _ => h) k, h3⟩
    · rw [List.getElem?_set_ne q] at e'
      obtain ⟨x, h1, h2, h3⟩ := R.own j b2 d2 e'
      exact ⟨x, h1, h2.mono (fun ob h _ => by rw [upd_ne (other j b2 d2 x q e' h1)]; exact h) k, h3⟩
  · have get : ∀ (j : Nat) (b2 : Bool) (d2 : Ty.D), (ρ.set i (some (.own bb d')))[j]? = some (some (.own b2 d2)) → ∃ b3 d3, ρ[j]? = some (some (.own b3 d3)) := fun j b2 d2 z => by
      by_cases q : i = j
      · subst q; exact ⟨bb, d, e⟩
      · rw [List.getElem?_set_ne q] at z; exact ⟨b2, d2, z⟩
    obtain ⟨_, _, z1⟩ := get _ _ _ e1
    obtain ⟨_, _, z2⟩ := get _ _ _ e2
    exact R.inj j j' _ _ _ _ x z1 z2 e3 e4
  · by_cases q : x = a
    · subst q; rw [upd_same]; exact fun w => by cases w
    · rw [upd_ne q]; exact R.trk x z
  · have nx : x ≠ a := fun z => by
      subst z
      rw [hoo] at e'
      cases e'
      rcases q with q | ⟨φ, q⟩
      · exact q hnt
      · obtain ⟨a', z1, z2, _⟩ := R.own i bb d e
        rw [ha] at z1
        cases z1
        rcases z2 with ⟨xs, ds, _, z3, _⟩ | ⟨o2, ks, xs, ds, _, z3, ⟨kv, z4, _⟩, _⟩
        · rw [hoo, q] at z3
          cases z3
        · rw [hoo, q, z4] at z3
          cases z3
    rw [upd_ne nx]; exact e'
  · by_cases q : x = a
    · subst q; exact absurd oa n
    · rw [upd_ne q]; exact e'
  · by_cases q : x = a
    · subst q; rw [upd_same]; exact fun w => by cases w
    · rw [upd_ne q]; exact n
  · by_cases q : i = j
    · subst q
      rw [e] at e'
      cases e'
      exact ⟨d', List.getElem?_set_self hi⟩
    · exact ⟨d2, by rw [List.getElem?_set_ne q]; exact e'⟩
theorem isLst_ok {i : Nat} (h : isLst i ρ = .ok () ρ') : ρ' = ρ ∧ ∃ bb ds, ρ[i]? = some (some (.own bb (.list ds))) := by
  unfold isLst at h
  split at h
  · rename_i bb ds hs
    cases h
    exact ⟨rfl, bb, ds, hs⟩
  · cases h
theorem appAt_ok {i : Nat} {d : Ty.D} (h : appAt i d ρ = .ok () ρ') : ∃ bb ds, ρ[i]? = some (some (.own bb (.list ds))) ∧ ds.length < 1000000 ∧ ρ' = ρ.set i (some (.own bb (.list (ds ++ [d])))) := by
  unfold appAt at h
  split at h
  · rename_i bb ds hs
    split at h
    · cases h
      exact ⟨bb, ds, hs, by assumption, rfl⟩
    · cases h
  · cases h
theorem putAt_ok {i : Nat} {k d : Ty.D} (h : putAt i k d ρ = .ok () ρ') : ∃ bb ds z j, ρ[i]? = some (some (.own bb (.list ds))) ∧ k = .int z ∧ ixNat ds.length z = some j ∧ ρ' = ρ.set i (some (.own bb (.list (ds.set j d)))) := by
  unfold putAt at h
  split at h
  · rename_i bb ds z hs
    split at h
    · rename_i j hj
      cases h
      exact ⟨bb, ds, z, j, hs, rfl, hj, rfl⟩
    · cases h
  · cases h
theorem ownList {i : Nat} {bb : Bool} {ds : List Ty.D} (R : RepE Y ρ σ H) (e : ρ[i]? = some (some (.own bb (.list ds)))) : ∃ a xs, σ[i]? = some (some (.ref a)) ∧ H a = some (.lst xs) ∧ RpAll Y.K (cut H (Ex_ Y ρ σ)) xs ds := by
  obtain ⟨a, h1, h2, _⟩ := R.own i bb _ e
  rcases h2 with ⟨xs, ds', e', hH, r⟩ | ⟨ob, ks, xs, ds', e', _⟩
  · cases e'
    exact ⟨a, xs, h1, hH, r⟩
  · cases e'
theorem s_app {i : Nat} {x : Str} (c : Cd X Z) (h : eM X Z e (ev Φ P t)) (hN : X.N[i]? = some x := by rfl) (hv : Vis X.env.scope x := by first | exact Or.inl rfl | exact Or.inr (Or.inl rfl) | exact Or.inr (Or.inr rfl)) (hd : (x == ("__debug__" : Str)) = false := by decide)
    (hcd : (x == ("__classdict__" : Str)) = false := by decide) (hbase : attributeBase (.Name x p) "append" X.env (eval (.Name x p) X.env) = eval (.Name x p) X.env := by rfl)
    (hfew : ((backTo cpos (starEach (e :: []) X.env)).all (fun x => !x.1) && (backToKw cpos (keywordEach [] X.env)).all (fun x => x.1.isSome)
      && decide ((e :: []).length + ([] : List Keyword).length + (if ([] : List Keyword).isEmpty then 0 else 1) < 30)) = true := by rfl)
    (hline : (apos.endLine == cpos.line) = true := by rfl) (hs : starEach (e :: []) X.env = (false, eval e X.env) :: starEach [] X.env := by rfl) (hplain : (backTo cpos (starEach [] X.env)).any (·.1) = false := by rfl)
    (hsw : swapsWith (.Call (.Attribute (.Name x p) "append" apos) [e] [] cpos) none pos.line X.env = pure false := by rfl) :
    eS X Z (.Expr (.Call (.Attribute (.Name x p) "append" apos) [e] [] cpos) pos) (ex Φ P (.app i t)) := fun Y o =>
  ps_imp (ps_expr (pe_bm PySem.F.plainAttrs_list PySem.F.slot_list_append PySem.F.type_list_append mt_append (pv i hN hv hd hcd) (pa_cons (h Y o) pa_nil hs) hbase hfew hline hs hplain) hsw) fun D σ H ⟨ρ, R, h⟩ => by
    rw [ex] at h
    obtain ⟨ρ', e1, k⟩ := ofM_ok h
    obtain ⟨⟨⟩, ρ1, f1, e2⟩ := bnd_ok e1
    obtain ⟨r, ρ2, f2, f3⟩ := bnd_ok e2
    obtain ⟨rfl, b0, ds0, hs0⟩ := isLst_ok f1
    obtain ⟨a, xs0, ha, hH0, _⟩ := ownList R hs0
    obtain ⟨bb, ds, hs1, hlt, rfl⟩ := appAt_ok f3
    refine ⟨.ref a, ha, .inl ⟨rfl, xs0, .of hH0⟩, tM_mk R f2 fun v H1 P1 r1 => ?_⟩
    obtain ⟨a', xs, ha', hH, rr⟩ := ownList P1.rep hs1
    rw [ha] at ha'
    cases ha'
    refine ⟨a, xs, v, rfl, rfl, hH, by rw [rr.length]; exact small_lt hlt (Nat.le_refl _), ?_⟩
    refine k σ _ (P1.s.trans (P1.rep.owner (c.t o) hs1 ha (.inl ⟨xs ++ [v], ds ++ [r.1], rfl, upd_same, rr.append (.cons r1.rp .nil)⟩)))
theorem s_put {i : Nat} {x : Str} (c : Cd X Z) (h : eM X Z e (ev Φ P t)) (h2 : eM X Z e2 (ev Φ P t2)) (hN : X.N[i]? = some x := by rfl) (hv : Vis X.env.scope x := by first | exact Or.inl rfl | exact Or.inr (Or.inl rfl) | exact Or.inr (Or.inr rfl)) (hd : (x == ("__debug__" : Str)) = false := by decide)
    (hcd : (x == ("__classdict__" : Str)) = false := by decide)
    (hA : ∀ v, assign (.Subscript (.Name x p) e2 p2) X.env v = (do
      let ov ← holding [v] (eval (.Name x p) X.env)
      let iv ← holding [v, ov] (eval e2 X.env)
      standAt p2
      (holding [v, ov, iv] (setItem ov iv v))
      release [v, ov, iv] []) := by intro _; rfl)
    (hs : swapsWithSole [.Subscript (.Name x p) e2 p2] e pos.line X.env = pure false := by rfl) (hw : swappedStores [.Subscript (.Name x p) e2 p2] e X.env = pure none := by rfl)
    (h1 : (assignEach [.Subscript (.Name x p) e2 p2] X.env).map (·.2) = [assign (.Subscript (.Name x p) e2 p2) X.env] := by rfl) :
    eS X Z (.Assign [.Subscript (.Name x p) e2 p2] e pos) (ex Φ P (.put i t2 t)) := fun Y o =>
  ps_imp (ps_asg (h Y o) (pg_sub (pv i hN hv hd hcd) (h2 Y o) set_list hA) hs hw h1) fun D σ H ⟨ρ, R, h⟩ => by
    rw [ex] at h
    obtain ⟨ρ', e1, k⟩ := ofM_ok h
    obtain ⟨r, ρ1, f1, e2⟩ := bnd_ok e1
    obtain ⟨⟨⟩, ρ1', f0, e3⟩ := bnd_ok e2
    obtain ⟨rfl, b0, ds0, hs0⟩ := isLst_ok f0
    obtain ⟨r', ρ2, f2, f3⟩ := bnd_ok e3
    obtain ⟨bb, ds, z, j, hs1, hk, hj, rfl⟩ := putAt_ok f3
    refine tM_mk R f1 fun v H1 P1 r1 => ?_
    obtain ⟨a, xs0, ha, _, _⟩ := ownList P1.rep hs0
    refine ⟨.ref a, ha, tM_mk P1.rep f2 fun v' H2 P2 r2 => ?_⟩
    obtain ⟨a', xs, ha', hH, rr⟩ := ownList P2.rep hs1
    rw [ha] at ha'
    cases ha'
    have w := r2.rp
    rw [hk] at w
    cases w
    refine ⟨a, xs, z, j, rfl, rfl, hH, by rw [rr.length]; exact hj, ?_⟩
    exact k σ _ ((P1.trans P2).s.trans (P2.rep.owner (c.t o) hs1 ha (.inl ⟨xs.set j v, ds.set j r.1, rfl, upd_same, rr.set j (P2.rp r1.rp)⟩)))
theorem s_for {tgt : Tg} {it : It} (c : Cd X Z) (hi : eI X Z tg iter (evI Φ P it)) (hg : eG X Z tg tgt) (hb : eSs X Z body (exs Φ P b)) (hp : PassesOwn (model X.prog X.w) X.A X.env X.xe := by exact PassesOwn.never) (hs : ∀ x, foldedSetIterable iter X.env x = pure x := by intro _; rfl) :
    eS X Z (.For tg iter body [] pos) (ex Φ P (.for tgt it b)) := fun Y o =>
  ps_imp (ps_for hp c.calm (pi_a hi) (pg_a hg) (pss_a hb) hs) fun D σ H ⟨ρ, R, h⟩ => by
    rw [ex] at h
    cases e1 : evI Φ P it ρ with
    | bad => simp only [e1] at h; exact h.elim
    | ok xs ρ1 =>
    simp only [e1] at h
    refine ⟨Y, o, ρ, R, ?_⟩
    rw [e1]
    intro J H1 P1 G
    generalize hout : forL tgt (exs Φ P b) xs ρ1 = out at h
    refine ⟨fun j m τ Hh => m = xs.length - j ∧ j ≤ xs.length ∧ ∃ ρj, PostS Y ρ1 ρj σ τ H1 Hh ∧ forL tgt (exs Φ P b) (xs.drop j) ρj = out, ⟨xs.length, rfl, Nat.zero_le _, ρ1, .refl P1.rep, hout⟩, ?_⟩
    rintro j m τ Hh ⟨rfl, hj, ρj, Q, hrun⟩
    obtain ⟨g1, g2, g3⟩ := G Hh _ Q.keep fun a z => Q.rep.exTr z
    by_cases hlt : j < xs.length
    · refine .inr ⟨g1 j hlt, fun τ' H' => ∃ ρj, PostS Y ρ1 ρj σ τ' H1 H' ∧ forL tgt (exs Φ P b) (xs.drop (j + 1)) ρj = out, fun τ' H' p => ⟨xs.length - (j + 1), by omega, rfl, hlt, p⟩, fun x H' y => ?_⟩
      obtain ⟨d, hd, rd, hH⟩ := g3 j x H' hlt y
      have hdr : xs.drop j = d :: xs.drop (j + 1) := by
        rw [(List.drop_eq_getElem_cons hlt)]
        rw [List.getElem?_eq_getElem hlt] at hd
        rw [Option.some.inj hd]
      rw [hdr, forL] at hrun
      have Py : Post Y ρj ρj τ Hh H' := yield_post (K := Y.K) (x := x) (d := d) (c.t o) Q.rep hH
      cases e2 : setTg tgt (d, false) ρj with
      | bad => simp only [e2] at hrun; subst hrun; exact h.elim
      | ok u ρa =>
      simp only [e2] at hrun
      refine ⟨Y, o, ρj, d, ρa, Py.rep, rd, e2, fun σ2 Pg _ _ => ?_⟩
      have Q2 := (Q.trans Py.s).trans Pg
      refine ⟨Y, o, ρa, Pg.rep, ?_⟩
      have hh := h.from (P1.s.trans Q2)
      cases e3 : exs Φ P b ρa with
      | nx ρb => simp only [e3] at hrun; exact fun σ' H'' q => ⟨ρb, Q2.trans q, hrun⟩
      | ct ρb => simp only [e3] at hrun; exact fun σ' H'' q => ⟨ρb, Q2.trans q, hrun⟩
      | bk ρb => simp only [e3] at hrun; subst hrun; exact hh
      | rt r ρb => simp only [e3] at hrun; subst hrun; exact hh
      | bad => simp only [e3] at hrun; subst hrun; exact h.elim
    · have ej : j = xs.length := by omega
      subst ej
      rw [List.drop_length, forL] at hrun
      subst hrun
      exact .inl ⟨g2, h τ Hh (P1.s.trans Q)⟩
theorem s_whl {tc : Ex} (hp : PassesOwn (model X.prog X.w) X.A X.env X.xe) (hc : eT X Z ec (tst Φ P tc)) (hb : eSs X Z body (exs Φ P b)) : eS X Z (.While ec body [] pos) (ex Φ P (.whl tc b)) := fun Y o =>
  ps_imp (ps_while hp (pt_a hc) (pss_a hb)) fun D σ H ⟨ρ, R, h⟩ => by
    rw [ex] at h
    generalize hn : 1000000 = n at h
    generalize hout : whL (tst Φ P tc) (exs Φ P b) n ρ = out at h
    refine ⟨fun m τ Hh => ∃ ρj, PostS Y ρ ρj σ τ H Hh ∧ whL (tst Φ P tc) (exs Φ P b) m ρj = out, ⟨n, ρ, .refl R, hout⟩, ?_⟩
    rintro m τ Hh ⟨ρj, Q, hrun⟩
    cases m with
    | zero => rw [whL] at hrun; subst hrun; exact h.elim
    | succ m =>
    rw [whL] at hrun
    cases e1 : tst Φ P tc ρj with
    | bad => simp only [e1] at hrun; subst hrun; exact h.elim
    | ok k ρa =>
    refine ⟨Y, o, tT_mk Q.rep e1 fun H1 P1 => ?_⟩
    have Q2 := Q.trans P1.s
    cases k with
    | false =>
      simp only [e1] at hrun
      subst hrun
      exact h τ H1 Q2
    | true =>
      simp only [e1] at hrun
      rw [if_pos rfl]
      refine ⟨fun τ' H' => ∃ ρj, PostS Y ρ ρj σ τ' H H' ∧ whL (tst Φ P tc) (exs Φ P b) m ρj = out, fun τ' H' p => ⟨m, Nat.lt_succ_self m, p⟩, Y, o, ρa, P1.rep, ?_⟩
      have hh := h.from Q2
      cases e3 : exs Φ P b ρa with
      | nx ρb => simp only [e3] at hrun; exact fun σ' H'' q => ⟨ρb, Q2.trans q, hrun⟩
      | ct ρb => simp only [e3] at hrun; exact fun σ' H'' q => ⟨ρb, Q2.trans q, hrun⟩
      | bk ρb => simp only [e3] at hrun; subst hrun; exact hh
      | rt r ρb => simp only [e3] at hrun; subst hrun; exact hh
      | bad => simp only [e3] at hrun; subst hrun; exact h.elim
/-! ### name = [..] on one line -/
theorem s_setLc {i : Nat} {y : Str} {py : Pos} {elt : Expr} {ifs : List Expr} {spos : Pos} {own : List (Str × Nat)} {scope : Scope} {tgt : Tg} {it : It} (c : Cd X Z) (hi : eI X Z tg iter (evI Φ P it)) (ok : BlkOk X.N X.env.scope scope own)
    (hg : ∀ (s : Shared) (H : Hp) (C : Addr) (cl : List (Str × Addr)) (fp : List Addr), eG (X.blk s H scope (compEnvC scope cl C X.env) fp) Z tg tgt) (ht : ∀ (s : Shared) (H : Hp) (C : Addr) (cl : List (Str × Addr)) (fp : List Addr), eTs (X.blk s H scope (compEnvC scope cl C X.env) fp) Z ifs (evC Φ P ts))
    (he : ∀ (s : Shared) (H : Hp) (C : Addr) (cl : List (Str × Addr)) (fp : List Addr), eM (X.blk s H scope (compEnvC scope cl C X.env) fp) Z elt (ev Φ P t)) (hsw : swapsWith (.ListComp elt [⟨tg, iter, ifs, 0⟩] scope pos) (some (.Name y py)) spos.line X.env = pure true)
    (hy : X.N[i]? = some y := by rfl) (hyl : X.env.scope.names.lookup y = some .local := by rfl) (hn : ∀ i ∈ tgN tgt, i ∈ own.map (·.2) := by decide)
    (hs : ∀ x, foldedSetIterable iter X.env x = pure x := by intro _; rfl) : eS X Z (.Assign [.Name y py] (.ListComp elt [⟨tg, iter, ifs, 0⟩] scope pos) spos) (ex Φ P (.asg (.nm i) (.comp (own.map (·.2)) tgt it ts t))) := fun Y o =>
  ps_imp (ps_setLc c.calm c.nd hy hyl hsw (pi_a hi) ok (fun s H C cl fp => pg_a (hg s H C cl fp)) (fun s H C cl fp => pts_a (ht s H C cl fp)) (fun s H C cl fp => pe_a (he s H C cl fp)) hs) fun D σ H h => asg_read (fun _ _ _ h => lc_read c.ht hn o h) h
theorem s_setLc2 {i : Nat} {y : Str} {py : Pos} {elt tg1 iter1 : Expr} {ifs ifs1 : List Expr} {spos : Pos} {own : List (Str × Nat)} {us : List Nat} {scope : Scope} {tgt tgt2 : Tg} {it it2 : It} {ts2 : Exs} (c : Cd X Z) (hi : eI X Z tg iter (evI Φ P it)) (ok : BlkOk X.N X.env.scope scope own)
    (hg : ∀ (s : Shared) (H : Hp) (C : Addr) (cl : List (Str × Addr)) (fp : List Addr), eG (X.blk s H scope (compEnvC scope cl C X.env) fp) Z tg tgt) (ht : ∀ (s : Shared) (H : Hp) (C : Addr) (cl : List (Str × Addr)) (fp : List Addr), eTs (X.blk s H scope (compEnvC scope cl C X.env) fp) Z ifs (evC Φ P ts))
    (hi2 : ∀ (s : Shared) (H : Hp) (C : Addr) (cl : List (Str × Addr)) (fp : List Addr), eI (X.blk s H scope (compEnvC scope cl C X.env) fp) Z tg1 iter1 (evI Φ P it2))
    (hg2 : ∀ (s : Shared) (H : Hp) (C : Addr) (cl : List (Str × Addr)) (fp : List Addr), eG (X.blk s H scope (compEnvC scope cl C X.env) fp) Z tg1 tgt2) (ht2 : ∀ (s : Shared) (H : Hp) (C : Addr) (cl : List (Str × Addr)) (fp : List Addr), eTs (X.blk s H scope (compEnvC scope cl C X.env) fp) Z ifs1 (evC Φ P ts2))
    (he : ∀ (s : Shared) (H : Hp) (C : Addr) (cl : List (Str × Addr)) (fp : List Addr), eM (X.blk s H scope (compEnvC scope cl C X.env) fp) Z elt (ev Φ P t)) (hsw : swapsWith (.ListComp elt [⟨tg, iter, ifs, 0⟩, ⟨tg1, iter1, ifs1, 0⟩] scope pos) (some (.Name y py)) spos.line X.env = pure true)
    (hy : X.N[i]? = some y := by rfl) (hyl : X.env.scope.names.lookup y = some .local := by rfl) (hn : ∀ i ∈ tgN tgt, i ∈ own.map (·.2) := by decide) (hn2 : ∀ i ∈ tgN tgt2, i ∈ us := by decide) (hu : ∀ i ∈ us, i ∈ own.map (·.2) := by decide)
    (hs : ∀ x, foldedSetIterable iter X.env x = pure x := by intro _; rfl) (hs1 : ∀ env x, foldedSetIterable iter1 env x = pure x := by intro _ _; rfl) :
    eS X Z (.Assign [.Name y py] (.ListComp elt [⟨tg, iter, ifs, 0⟩, ⟨tg1, iter1, ifs1, 0⟩] scope pos) spos) (ex Φ P (.asg (.nm i) (.comp2 (own.map (·.2)) us tgt it ts tgt2 it2 ts2 t))) := fun Y o =>
  ps_imp (ps_setLc2 c.calm c.nd hy hyl hsw (pi_a hi) ok hu (fun s H C cl fp => pg_a (hg s H C cl fp)) (fun s H C cl fp => pts_a (ht s H C cl fp)) (fun s H C cl fp => pi_a (hi2 s H C cl fp)) (fun s H C cl fp => pg_a (hg2 s H C cl fp)) (fun s H C cl fp => pts_a (ht2 s H C cl fp))
    (fun s H C cl fp => pe_a (he s H C cl fp)) hs hs1) fun D σ H h => asg_read (fun _ _ _ h => lc2_read c.ht hn hn2 hu o h) h
end
end Ty
set_option autoImplicit false
set_option maxHeartbeats 200000
/-! T7: what a def promises; calls. -/
namespace Ty
open PySem.Spec PyProof.Rows L2 PySem
/-- a def: its parameters' number, its names' number, its body -/
structure Df where
  n : Nat
  m : Nat
  body : Sms
def parS (o : Option Sl) : Sl := o.getD (.fro .none)
def parO (n : Nat) (ρ : Env) : List Sl := (List.range n).map fun i => parS (ρ.getD i none)
def runD (Φ : Fns) (P : Pars) (d : Df) (ss : List Sl) : FOut :=
  if ss.length = d.n then (match exs Φ P d.body (ss.map some ++ List.replicate (d.m - d.n) none) with
    | .rt r ρ => .ok r (parO d.n ρ)
    | .nx ρ => .ok (.none, false) (parO d.n ρ)
    | _ => .bad)
  else .bad
def run (tab : Str → Option Df) (P : Pars) : Nat → Fns
  | 0 => fun _ _ => .bad
  | k + 1 => fun f ss => match tab f with
    | some d => runD (run tab P k) P d ss
    | none => .bad
/-- the value is a new list -/
def NewP (r : R) (v : V) (a : Addr) : Prop := r.2 = true ∧ v = .ref a
structure RetOk (Y : Yc) (ss ps : List Sl) (vs : List V) (H H' : Hp) (r : R) (v : V) : Prop where
  tb : Y.tb H'
  frm : Fr (OwnAt (ss.map some) (vs.map some)) H H'
  len : ps.length = ss.length
  par : ∀ (i : Nat) (d : D), ss[i]? = some (.own true d) → ∃ d' a, ps[i]? = some (.own true d') ∧ vs[i]? = some (.ref a) ∧ OwnC Y.K H' (cut H' fun x => Y.O x ∨ NewP r v x) a d'
  res : match r with
    | (d, false) => Rp Y.K (cut H' Y.O) v d
    | (d, true) => ∃ p xs ds, v = .ref p ∧ d = .list ds ∧ ¬ Y.T p ∧ H' p = some (.lst xs) ∧ RpAll Y.K (cut H' fun a => Y.O a ∨ a = p) xs ds
abbrev Spt := List V → Hp → VK → Prop
def spT (Z : Zc) (F : List Sl → FOut) : Spt := fun vs H Q => ∃ (Y : Yc) (ss ps : List Sl) (r : R), Of Z Y ∧ RepE Y (ss.map some) (vs.map some) H ∧ F ss = .ok r ps ∧ ∀ v H', RetOk Y ss ps vs H H' r v → Q v H'
def CT (outer : List PySem.Env) (P : Program) (w : World) (H : Hp) (s : Shared) (Q : VK) (r : Result) (s' : Shared) : Prop := match r with
  | .ok (.ret u) => (CE outer P w H s Q u s')
  | _ => False
/-- what a def promises, the guards of repr being none -/
structure FnG (P : Program) (w : World) (K : PySem.W.Frag) (mg : Str → Option Value) (base : Heap) (k : Nat) (f : Addr) (fd : FuncData) (ps : List Str) (sp : Spt) : Prop where
  len : ∀ vs H Q, sp vs H Q → vs.length = ps.length
  run : ∀ (A : Around) (outer : List PySem.Env) (s : Shared) (H : Hp) (args : Args) (us : List Value) (vs : List V) (Q : VK), Room k A → A.guards = some [] → Env0 P w K mg base A outer s H → BindsTo s fd args (ps.zip us) → Vals vs us → sp vs H Q →
    codeAny (model P w) A (.call (.ref f) args) (CT outer P w H s Q) s
section
variable {Y : Yc} {ρ ρ' : Env} {σ σ' : L2.St} {H H' : Hp}
theorem OwnC.list {K : PySem.W.Frag} {H Hc : Hp} {a : Addr} {d : D} (h : OwnC K H Hc a d) : H a ≠ none := by
  obtain ⟨o, e, _⟩ := h.tr
  rw [e]
  exact fun z => by cases z
/-- more names that hold nothing -/
theorem pad_get {α : Type} {l : List (Option α)} {n i : Nat} {s : α} (h : (l ++ List.replicate n none)[i]? = some (some s)) : l[i]? = some (some s) := by
  by_cases q : i < l.length
  · rw [List.getElem?_append_left q] at h; exact h
  · rw [List.getElem?_append_right (by omega), List.getElem?_replicate] at h
    split at h <;> cases h
theorem get_pad {α : Type} {l : List (Option α)} {n i : Nat} {s : α} (h : l[i]? = some (some s)) : (l ++ List.replicate n none)[i]? = some (some s) := by
  have q : i < l.length := by
    rcases Nat.lt_or_ge i l.length with z | z
    · exact z
    · rw [List.getElem?_eq_none z] at h; cases h
  rw [List.getElem?_append_left q]; exact h
theorem own_pad {n : Nat} {a : Addr} : OwnAt (ρ ++ List.replicate n none) (σ ++ List.replicate n none) a ↔ OwnAt ρ σ a :=
  ⟨fun ⟨i, b, d, h1, h2⟩ => ⟨i, b, d, pad_get h1, pad_get h2⟩, fun ⟨i, b, d, h1, h2⟩ => ⟨i, b, d, get_pad h1, get_pad h2⟩⟩
theorem RepE.pad {n : Nat} (R : RepE Y ρ σ H) : RepE Y (ρ ++ List.replicate n none) (σ ++ List.replicate n none) H := by
  have k : Keep (cut H (Ex_ Y ρ σ)) (cut H (Ex_ Y (ρ ++ List.replicate n none) (σ ++ List.replicate n none))) := cut_sub fun a z => z.elim .inl fun q => .inr (own_pad.mp q)
  refine ⟨by simp [R.len], fun i d e => ?_, fun i b d e => ?_, fun i j b b' d d' a e1 e2 e3 e4 => R.inj i j b b' d d' a (pad_get e1) (pad_get e2) (pad_get e3) (pad_get e4), R.sub, R.trk, R.tbs⟩
  · obtain ⟨v, h1, h2⟩ := R.fro i d (pad_get e)
    exact ⟨v, get_pad h1, h2.mono k⟩
  · obtain ⟨a, h1, h2, h3⟩ := R.own i b d (pad_get e)
    exact ⟨a, get_pad h1, h2.mono (fun _ h _ => h) k, h3⟩
theorem some_get {α : Type} {l : List α} {i : Nat} {s : α} : (l.map some)[i]? = some (some s) ↔ l[i]? = some s := by
  rw [List.getElem?_map]
  cases l[i]? <;> simp
/-- the end of a def -/
theorem ret_ok {ss : List Sl} {vs : List V} {n k : Nat} {r : Ty.R} {v : V} (hn : ss.length = n) (Q : PostS Y (ss.map some ++ List.replicate k none) ρ' (vs.map some ++ List.replicate k none) σ' H H') (hr : ResR Y ρ' σ' H' r v) : RetOk Y ss (parO n ρ') vs H H' r v := by
  refine ⟨Q.rep.tbs, Q.frm.mono fun a z => own_pad.mp z, by rw [parO, List.length_map, List.length_range, hn], fun i d e => ?_, ?_⟩
  · have e1 : (ss.map some ++ List.replicate k none)[i]? = some (some (.own true d)) := get_pad (some_get.mpr e)
    obtain ⟨d', e2⟩ := Q.par i d e1
    have e3 := Q.pos i d e1
    obtain ⟨a, h1, h2, h3⟩ := Q.rep.own i true d' e2
    rw [e3] at h1
    have hv : vs[i]? = some (.ref a) := some_get.mp (pad_get h1)
    have hi : i < n := by
      rw [← hn]
      rcases Nat.lt_or_ge i ss.length with z | z
      · exact z
      · rw [List.getElem?_eq_none z] at e; cases e
    have hps : (parO n ρ')[i]? = some (.own true d') := by
      rw [parO, List.getElem?_map, List.getElem?_range hi]
      show some (parS (ρ'.getD i none)) = _
      rw [List.getD_eq_getElem?_getD, e2]; rfl
    refine ⟨d', a, hps, hv, ?_⟩
    obtain ⟨d0, nw⟩ := r
    cases nw with
    | false => exact h2.mono (fun _ h _ => h) (cut_sub fun x z => z.elim .inl fun q => by cases q.1)
    | true =>
      obtain ⟨p, xs, ds, rfl, rfl, _, _, _, R2⟩ := hr
      obtain ⟨a', g1, g2, _⟩ := R2.own i true d' e2
      rw [e3] at g1
      rw [h1] at g1
      cases g1
      refine g2.mono (fun _ h _ => h) (cut_sub fun x z => plus_ex.mpr ?_)
      rcases z with z | ⟨_, z⟩
      · exact .inl (.inl z)
      · cases z; exact .inr rfl
  · obtain ⟨d0, nw⟩ := r
    cases nw with
    | false => exact hr
    | true =>
      obtain ⟨p, xs, ds, h1, h2, h3, h4, h5, _⟩ := hr
      exact ⟨p, xs, ds, h1, h2, h3, h4, h5⟩
theorem resR_non {ρ : Env} {σ : L2.St} : ResR Y ρ σ H (.none, false) .non := (show Rp _ _ _ _ from .non)
/-- the reading of a def's body -/
theorem body_ok {Z : Zc} {tab : Str → Option Df} {P : Pars} {k : Nat} {f : Str} {d : Df} {vs : List V} {Q : VK} {N : List Str} (hd : tab f = some d) (hN : N.length = d.m) (hm : d.n ≤ d.m) (h : spT Z (run tab P (k + 1) f) vs H Q) :
    vs.length = d.n ∧ ∃ Y, Of Z Y ∧ tS Y (exs (run tab P k) P d.body) { nx := fun _ H' => Q .non H', rt := Q } (start N vs) H := by
  obtain ⟨Y, ss, ps, r, o, R, e, q⟩ := h
  have hrun : run tab P (k + 1) f ss = runD (run tab P k) P d ss := by
    show (match tab f with
      | some d => runD (run tab P k) P d ss
      | none => FOut.bad) = _
    rw [hd]
  rw [hrun] at e
  unfold runD at e
  split at e
  · rename_i hn
    have hl : vs.length = ss.length := by
      have z := R.len
      rw [List.length_map, List.length_map] at z
      exact z.symm
    have st : start N vs = vs.map some ++ List.replicate (d.m - d.n) none := by
      unfold L2.start
      rw [hN, hl, hn]
    refine ⟨hl.trans hn, Y, o, ss.map some ++ List.replicate (d.m - d.n) none, by rw [st]; exact R.pad, ?_⟩
    rw [st]
    cases ex : exs (run tab P k) P d.body (ss.map some ++ List.replicate (d.m - d.n) none) with
    | nx ρ' =>
      rw [ex] at e
      cases e
      exact fun σ' H' P => q .non H' (ret_ok hn P resR_non)
    | rt r' ρ' =>
      rw [ex] at e
      cases e
      exact fun v σ' H' P hr => q v H' (ret_ok hn P hr)
    | bk ρ' => rw [ex] at e; cases e
    | ct ρ' => rw [ex] at e; cases e
    | bad => rw [ex] at e; cases e
  · cases e
end
section
variable {P : Program}
variable {w : World} {K : PySem.W.Frag} {mg : Str → Option Value} {base : Heap}
/-- THE RULE for a def, its code value given -/
theorem fnG_ofC {x qual : Str} {st : Stmt} {f : Addr} {fd : FuncData} {N ps : List Str} {k : Nat} {sp : Spt} {oc kV doc pm cdv ct : Value} {od an : Option Addr} {osl : Array (Option Value)} (efd : fd = PySem.W.fnOf x qual (defArgs st) (defBody st) (defScope st) .none kV doc pm an cdv ct) (hf : K.lookup f = some ⟨oc, od, .func fd, osl⟩)
    (hco : PySem.W.codeIn K cdv qual = true) (S : FnScope N ps (defScope st)) (len : ∀ vs H Q, sp vs H Q → vs.length = ps.length)
    (hb : ∀ (A : Around) (outer : List PySem.Env) (s : Shared) (H : Hp) (vs : List V) (Q : VK), Room k (A.deeper (envOfC qual (defScope st) s.heap.objs.size f cdv)) → A.guards = some [] → sp vs H Q →
      ∃ t, PSs (cxOf CX0 P w K mg base N qual (defScope st) f cdv A outer s H E0).nox (defBody st) t ∧ t { nx := fun _ H' => Q .non H', rt := Q } (start N vs) H) : FnG P w K mg base (k + 1) f fd ps sp := by
  subst efd
  refine ⟨len, fun A outer s H args us vs Q room gd e0 bind rv hsp => ?_⟩
  have hlen := len _ _ _ hsp
  have kin : K.In s.heap := e0.mod.kin.keeps fun a o z => (e0.bs a o z).1
  have nol : s.heap.NoLimit := e0.mod.nolimit.keeps fun a o z => (e0.bs a o z).1
  have kinds : ∀ y ∈ ps.zip us, (defScope st).names.lookup y.1 = some .local ∨ ((defScope st).names.lookup y.1 = some .cell ∧ ((cellsFrom (s.heap.objs.size + 1) (defScope st).names []).lookup y.1).isSome = true) := fun ⟨nm, u⟩ hy =>
    (S.par nm (List.of_mem_zip hy).1).elim .inl fun z => .inr ⟨z, PySem.W.cellsFrom_some _ _ _ (.inl z)⟩
  refine codeAny_call_function room.depth (kin _ _ hf) rfl S.co S.gen rfl (PySem.W.codeRec_of kin hco) (bind _ _ _ _ ?_)
  refine wpAny_newFunctionEnv_cells S.kind kinds fun env eq s1 ic => ?_
  subst eq
  refine ⟨nol.keeps ic.toInCall.keep, codeAny_func ?_⟩
  obtain ⟨t, ht, hq⟩ := hb A outer s H vs Q (room.deeper _) gd hsp
  have I0 : Inv (cxOf CX0 P w K mg base N qual (defScope st) f cdv A outer s H E0) [] (start N vs) H s1 := inv_start S room.hd e0 hlen rv ic
  refine wpAny_mono (ht.nox.run [] s1 (start N vs) H _ I0 hq) (fun fl s' hs => ?_) fun e s' hs => hs
  have out : ∀ {τ : L2.St} {H' : Hp} {v : V} {u : Value}, Inv (cxOf CX0 P w K mg base N qual (defScope st) f cdv A outer s H E0) [] τ H' s' → RelV v u → Q v H' → CE outer P w H s Q u s' := fun {τ H' v u} J r q => ⟨v, H', J.os, J.bare, J.base, J.hok, r, q⟩
  cases fl with
  | ret u =>
    obtain ⟨v, τ, H', J, r, q⟩ := hs
    exact out J r q
  | next =>
    obtain ⟨τ, H', J, q⟩ := hs
    exact out (v := V.non) (u := Value.none) J rfl q
  | brk =>
    obtain ⟨_, _, _, q⟩ := hs
    exact q.elim
  | cont =>
    obtain ⟨_, _, _, q⟩ := hs
    exact q.elim
/-- THE RULE for a def -/
theorem fnG_of {x qual : Str} {st : Stmt} {f : Addr} {fd : FuncData} {N ps : List Str} {k : Nat} {sp : Spt} (F : Fun K x qual st f fd) (S : FnScope N ps (defScope st)) (len : ∀ vs H Q, sp vs H Q → vs.length = ps.length)
    (hb : ∀ (cdv : Value) (A : Around) (outer : List PySem.Env) (s : Shared) (H : Hp) (vs : List V) (Q : VK), Room k (A.deeper (envOfC qual (defScope st) s.heap.objs.size f cdv)) → A.guards = some [] → sp vs H Q →
      ∃ t, PSs (cxOf CX0 P w K mg base N qual (defScope st) f cdv A outer s H E0).nox (defBody st) t ∧ t { nx := fun _ H' => Q .non H', rt := Q } (start N vs) H) : FnG P w K mg base (k + 1) f fd ps sp := by
  obtain ⟨oc, od, kV, doc, pm, an, cdv, ct, osl, e, hf, hco⟩ := F.ex
  exact fnG_ofC e hf hco S len fun A outer s H vs Q => hb cdv A outer s H vs Q
end
end Ty
set_option autoImplicit false
set_option maxHeartbeats 200000
/-! T7b: calls of defs. -/
namespace Ty
open PySem.Spec PyProof.Rows L2 PySem
def ResA (Y : Yc) (ρ : Env) (σ : L2.St) (H' : Hp) (a : Arg) (v : V) : Prop := match a with
  | .val d => Rp Y.K (cut H' (Ex_ Y ρ σ)) v d
  | .ref i => σ[i]? = some (some v)
inductive ResAs (Y : Yc) (ρ : Env) (σ : L2.St) (H' : Hp) : List Arg → List V → Prop
  | nil : ResAs Y ρ σ H' [] []
  | cons {a : Arg} {as : List Arg} {v : V} {vs : List V} : ResA Y ρ σ H' a v → ResAs Y ρ σ H' as vs → ResAs Y ρ σ H' (a :: as) (v :: vs)
def tA (Y : Yc) (m : M (List Arg)) : TA := fun σ H Q => ∃ ρ, RepE Y ρ σ H ∧ match m ρ with
  | .ok as ρ' => ∀ vs H', Post Y ρ ρ' σ H H' → ResAs Y ρ' σ H' as vs → Q vs H'
  | .bad => False
def eA (X : Cx) (Z : Zc) (e : List Expr) (m : M (List Arg)) : Prop := ∀ Y, Of Z Y → PA X e (tA Y m)
section
variable {X : Cx} {Z : Zc} {Y : Yc} {Φ : Fns} {P : Pars} {e e1 e2 e3 : Expr} {es : List Expr} {pos p p2 p3 : Pos} {t t1 t2 t3 : Ex} {as : Ars} {ρ ρ' ρ'' : Env} {σ σ' : L2.St} {H H' : Hp}
theorem tA_of {m : M (List Arg)} {Q : List V → Hp → Prop} (h : tA Y m σ H Q) : ∃ ρ b ρ', RepE Y ρ σ H ∧ m ρ = .ok b ρ' ∧ ∀ v H', Post Y ρ ρ' σ H H' → ResAs Y ρ' σ H' b v → Q v H' := by
  obtain ⟨ρ, R, h⟩ := h
  cases e : m ρ with
  | ok r ρ' => rw [e] at h; exact ⟨ρ, r, ρ', R, e, h⟩
  | bad => rw [e] at h; exact h.elim
theorem tA_mk {m : M (List Arg)} {Q : List V → Hp → Prop} {b : List Arg} (R : RepE Y ρ σ H) (e : m ρ = .ok b ρ') (h : ∀ v H', Post Y ρ ρ' σ H H' → ResAs Y ρ' σ H' b v → Q v H') : tA Y m σ H Q :=
  ⟨ρ, R, by rw [e]; exact h⟩
theorem Post.resA (a : Post Y ρ ρ' σ H H') {v : V} {b : Arg} (h : ResA Y ρ σ H b v) : ResA Y ρ' σ H' b v := by
  cases b with
  | val d => exact a.rp h
  | ref i => exact h
theorem a_nil : eA X Z [] (evA Φ P .nil) := fun Y o => pa_imp pa_nil fun σ H Q h => by
  rw [evA] at h
  obtain ⟨ρ, b, ρ', R, e, q⟩ := tA_of h
  cases e
  exact q [] H (.refl R) .nil
theorem a_val (h1 : eM X Z e (ev Φ P t)) (h2 : eA X Z es (evA Φ P as)) (hs : starEach (e :: es) X.env = (false, eval e X.env) :: starEach es X.env := by rfl) : eA X Z (e :: es) (evA Φ P (.val t as)) := fun Y o => pa_imp (pa_cons (h1 Y o) (h2 Y o) hs) fun σ H Q h => by
  rw [evA] at h
  obtain ⟨ρ, b, ρ', R, e, q⟩ := tA_of h
  obtain ⟨r, ρ1, e1, e2⟩ := bnd_ok e
  obtain ⟨xs, ρ2, e3, e4⟩ := bnd_ok e2
  cases e4
  exact tM_mk R e1 fun v H1 P1 r1 => tA_mk P1.rep e3 fun vs H2 P2 r2 => q _ _ (P1.trans P2) (.cons (P2.resA (b := .val r.1) r1.rp) r2)
theorem chkOwn_ok {i : Nat} (h : chkOwn i ρ = .ok () ρ') : ρ' = ρ ∧ ∃ b d, ρ[i]? = some (some (.own b d)) := by
  unfold chkOwn at h
  split at h
  · rename_i b d hs
    cases h
    exact ⟨rfl, b, d, hs⟩
  · cases h
theorem a_ref {i : Nat} {x : Str} (h2 : eA X Z es (evA Φ P as)) (hN : X.N[i]? = some x := by rfl) (hv : Vis X.env.scope x := by first | exact Or.inl rfl | exact Or.inr (Or.inl rfl) | exact Or.inr (Or.inr rfl)) (hd : (x == ("__debug__" : Str)) = false := by decide)
    (hcd : (x == ("__classdict__" : Str)) = false := by decide) (hs : starEach (.Name x p :: es) X.env = (false, eval (.Name x p) X.env) :: starEach es X.env := by rfl) : eA X Z (.Name x p :: es) (evA Φ P (.ref i as)) := fun Y o => pa_imp (pa_cons (pv i hN hv hd hcd) (h2 Y o) hs) fun σ H Q h => by
  rw [evA] at h
  obtain ⟨ρ, b, ρ', R, e, q⟩ := tA_of h
  obtain ⟨⟨⟩, ρ1, e1, e2⟩ := bnd_ok e
  obtain ⟨rfl, bb, d, hs⟩ := chkOwn_ok e1
  obtain ⟨xs, ρ2, e3, e4⟩ := bnd_ok e2
  cases e4
  obtain ⟨a, h1, _⟩ := R.own i bb d hs
  exact ⟨_, h1, tA_mk R e3 fun vs H2 P2 r2 => q _ _ P2 (.cons h1 r2)⟩

/-! ### the callee's view -/
/-- all that the caller has is the callers' -/
def calY (Y : Yc) (ρ : Env) (σ : L2.St) (H : Hp) : Yc := { K := Y.K, O := Ex_ Y ρ σ, T := fun a => H a ≠ none, tb := Y.tb }
theorem argSls_get : ∀ {as : List Arg} {ss : List Sl}, argSls ρ as = some ss → ∀ (j : Nat) (s : Sl), ss[j]? = some s → ∃ a, as[j]? = some a ∧ argSl ρ a = some s
  | [], ss, h, j, s, e => by
    simp only [argSls, Option.some.injEq] at h
    subst h
    simp at e
  | a :: as, ss, h, j, s, e => by
    simp only [argSls] at h
    split at h
    · rename_i s1 ss1 h1 h2
      cases h
      cases j with
      | zero =>
        simp at e
        subst e
        exact ⟨a, by simp, h1⟩
      | succ j =>
        obtain ⟨a', z1, z2⟩ := argSls_get h2 j s (by simpa using e)
        exact ⟨a', by simpa using z1, z2⟩
    · cases h
theorem argSls_len : ∀ {as : List Arg} {ss : List Sl}, argSls ρ as = some ss → ss.length = as.length
  | [], ss, h => by
    simp only [argSls, Option.some.injEq] at h
    subst h; rfl
  | a :: as, ss, h => by
    simp only [argSls] at h
    split at h
    · rename_i s1 ss1 h1 h2
      cases h
      rw [List.length_cons, List.length_cons, argSls_len h2]
    · cases h
theorem ResAs.len {as : List Arg} {vs : List V} (h : ResAs Y ρ σ H as vs) : as.length = vs.length := by
  induction h with
  | nil => rfl
  | cons _ _ ih => (rw [List.length_cons, List.length_cons, ih])
theorem ResAs.get {as : List Arg} {vs : List V} (h : ResAs Y ρ σ H as vs) : ∀ (j : Nat) (a : Arg), as[j]? = some a → ∃ v : V, vs[j]? = some v ∧ ResA Y ρ σ H a v := by
  induction h with
  | nil => intro j a e; simp at e
  | cons h1 _ ih =>
    intro j a e
    cases j with
    | zero => simp at e; subst e; exact ⟨_, rfl, h1⟩
    | succ j => exact ih j a (by simpa using e)
theorem argSl_own {a : Arg} {b : Bool} {d : D} (h : argSl ρ a = some (.own b d)) : b = true ∧ ∃ i b', a = .ref i ∧ ρ[i]? = some (some (.own b' d)) := by
  cases a with
  | val d => cases h
  | ref i =>
    simp only [argSl] at h
    split at h
    · rename_i b' d' hs
      cases h
      exact ⟨rfl, i, b', rfl, hs⟩
    · cases h
theorem argSl_fro {a : Arg} {d : D} (h : argSl ρ a = some (.fro d)) : a = .val d := by
  cases a with
  | val d => cases h; rfl
  | ref i =>
    simp only [argSl] at h
    split at h <;> cases h
theorem mem_refs : ∀ {as : List Arg} {j i : Nat}, as[j]? = some (.ref i) → i ∈ refsOf as
  | [], j, i, h => by simp at h
  | .val d :: as, 0, i, h => by simp at h
  | .val d :: as, j + 1, i, h => by
    show i ∈ refsOf as
    exact mem_refs (j := j) (by simpa using h)
  | .ref k :: as, 0, i, h => by
    simp at h
    subst h
    exact List.mem_cons_self
  | .ref k :: as, j + 1, i, h => List.mem_cons_of_mem _ (mem_refs (j := j) (by simpa using h))
theorem refs_inj : ∀ {as : List Arg} {j j' i : Nat}, (refsOf as).Nodup → as[j]? = some (.ref i) → as[j']? = some (.ref i) → j = j'
  | [], j, _, i, _, h, _ => by simp at h
  | .val d :: as, j, j', i, hn, h, h' => by
    cases j with
    | zero => simp at h
    | succ j => cases j' with
      | zero => simp at h'
      | succ j' => exact congrArg Nat.succ (refs_inj (as := as) (i := i) hn (by simpa using h) (by simpa using h'))
  | .ref k :: as, j, j', i, hn, h, h' => by
    have hn' := (List.nodup_cons.mp hn)
    cases j with
    | zero => cases j' with
      | zero => rfl
      | succ j' =>
        simp at h
        subst h
        exact absurd (mem_refs (j := j') (by simpa using h')) hn'.1
    | succ j => cases j' with
      | zero =>
        simp at h'
        subst h'
        exact absurd (mem_refs (j := j) (by simpa using h)) hn'.1
      | succ j' => exact congrArg Nat.succ (refs_inj (as := as) (i := i) hn'.2 (by simpa using h) (by simpa using h'))
theorem own_call {as : List Arg} {ss : List Sl} {vs : List V} (ha : argSls ρ as = some ss) (r : ResAs Y ρ σ H as vs) {a : Addr} (z : OwnAt (ss.map some) (vs.map some) a) : ∃ (j i : Nat) (b : Bool) (d : D), as[j]? = some (.ref i) ∧ ρ[i]? = some (some (.own b d)) ∧ σ[i]? = some (some (.ref a)) ∧ vs[j]? = some (.ref a) := by
  obtain ⟨j, b, d, e1, e2⟩ := z
  obtain ⟨x, h1, h2⟩ := argSls_get ha j _ (some_get.mp e1)
  obtain ⟨rfl, i, b', rfl, h3⟩ := argSl_own h2
  obtain ⟨v, h4, h5⟩ := r.get j _ h1
  have h6 := some_get.mp e2
  rw [h4] at h6
  cases h6
  exact ⟨j, i, b', d, h1, h3, h5, h4⟩
theorem call_rep {as : List Arg} {ss : List Sl} {vs : List V} (R : RepE Y ρ σ H) (ha : argSls ρ as = some ss) (r : ResAs Y ρ σ H as vs) (hn : (refsOf as).Nodup) : RepE (calY Y ρ σ H) (ss.map some) (vs.map some) H := by
  have sub : ∀ a, Ex_ (calY Y ρ σ H) (ss.map some) (vs.map some) a → Ex_ Y ρ σ a := fun a z => z.elim (fun q => q) fun q => by
    obtain ⟨j, i, b, d, _, h1, h2, _⟩ := own_call ha r q
    exact .inr ⟨i, b, d, h1, h2⟩
  have k : Keep (cut H (Ex_ Y ρ σ)) (cut H (Ex_ (calY Y ρ σ H) (ss.map some) (vs.map some))) := cut_sub sub
  refine ⟨by rw [List.length_map, List.length_map, argSls_len ha, r.len], fun j d e => ?_, fun j b d e => ?_, fun j j' b b' d d' a e1 e2 e3 e4 => ?_, fun a z => R.exTr z, fun a z => z, R.tbs⟩
  · obtain ⟨x, h1, h2⟩ := argSls_get ha j _ (some_get.mp e)
    have h3 := argSl_fro h2
    subst h3
    obtain ⟨v, h4, h5⟩ := r.get j _ h1
    exact ⟨v, some_get.mpr h4, (show Rp Y.K _ v d from h5).mono k⟩
  · obtain ⟨x, h1, h2⟩ := argSls_get ha j _ (some_get.mp e)
    obtain ⟨rfl, i, b', rfl, h3⟩ := argSl_own h2
    obtain ⟨v, h4, h5⟩ := r.get j _ h1
    obtain ⟨a, z1, z2, _⟩ := R.own i b' d h3
    have h5' : σ[i]? = some (some v) := h5
    rw [z1] at h5'
    cases h5'
    exact ⟨a, some_get.mpr h4, z2.mono (fun _ h _ => h) k, fun _ => .inr ⟨i, b', d, h3, z1⟩, fun q => by cases q⟩
  · obtain ⟨x, h1, h2⟩ := argSls_get ha j _ (some_get.mp e1)
    obtain ⟨x', g1, g2⟩ := argSls_get ha j' _ (some_get.mp e2)
    obtain ⟨rfl, i, bi, rfl, h3⟩ := argSl_own h2
    obtain ⟨rfl, i', bi', rfl, g3⟩ := argSl_own g2
    obtain ⟨v, h4, h5⟩ := r.get j _ h1
    obtain ⟨v', g4, g5⟩ := r.get j' _ g1
    have q1 := some_get.mp e3
    have q2 := some_get.mp e4
    rw [h4] at q1
    rw [g4] at q2
    cases q1
    cases q2
    have ii : i = i' := R.inj i i' bi bi' d d' a h3 g3 h5 g5
    subst ii
    exact refs_inj hn h1 g1
end
end Ty
set_option autoImplicit false
set_option maxHeartbeats 200000
/-! T7c: behind a call. -/
namespace Ty
open PySem.Spec PyProof.Rows L2 PySem
section
variable {X : Cx} {Z : Zc} {Y : Yc} {Φ : Fns} {P : Pars} {e e1 e2 e3 : Expr} {es : List Expr} {pos p p2 p3 : Pos} {t t1 t2 t3 : Ex} {as : Ars} {ρ ρ' ρ'' : Env} {σ σ' : L2.St} {H H' : Hp}
/-- the lists that were lent, told by place -/
theorem backArgs_get : ∀ {as : List Arg} {ps : List Sl} {ρ ρ' : Env}, backArgs as ps ρ = some ρ' → (refsOf as).Nodup →
    ρ'.length = ρ.length ∧ (∀ i, i ∉ refsOf as → ρ'[i]? = ρ[i]?) ∧ ∀ (j i : Nat), as[j]? = some (.ref i) → ∃ (b b' : Bool) (d d' : D), ps[j]? = some (.own b' d') ∧ ρ[i]? = some (some (.own b d)) ∧ ρ'[i]? = some (some (.own b d'))
  | [], ps, ρ, ρ', h, _ => by
    simp only [backArgs, Option.some.injEq] at h
    subst h
    exact ⟨rfl, fun _ _ => rfl, fun j i z => by simp at z⟩
  | .val d :: as, [], ρ, ρ', h, _ => by simp [backArgs] at h
  | .ref i :: as, [], ρ, ρ', h, _ => by simp [backArgs] at h
  | .val d :: as, s :: ps, ρ, ρ', h, hn => by
    simp only [backArgs] at h
    obtain ⟨h1, h2, h3⟩ := backArgs_get h hn
    refine ⟨h1, h2, fun j i z => ?_⟩
    cases j with
    | zero => simp at z
    | succ j => exact h3 j i (by simpa using z)
  | .ref k :: as, s :: ps, ρ, ρ', h, hn => by
    simp only [backArgs] at h
    obtain ⟨ρ1, g1, g2⟩ := Option.bind_eq_some_iff.mp h
    have hn' := List.nodup_cons.mp (show (k :: refsOf as).Nodup from hn)
    obtain ⟨h1, h2, h3⟩ := backArgs_get g2 hn'.2
    unfold setData at g1
    split at g1
    · rename_i b' d' b d hs
      cases g1
      have hk : k < ρ.length := by
        rcases Nat.lt_or_ge k ρ.length with z | z
        · exact z
        · rw [List.getElem?_eq_none z] at hs; cases hs
      refine ⟨by rw [h1]; simp, fun i hi => ?_, fun j i z => ?_⟩
      · have hi' : i ≠ k ∧ i ∉ refsOf as := by
          constructor
          · rintro rfl; exact hi List.mem_cons_self
          · exact fun q => hi (List.mem_cons_of_mem _ q)
        rw [h2 i hi'.2, List.getElem?_set_ne (Ne.symm hi'.1)]
      · cases j with
        | zero =>
          simp at z
          subst z
          exact ⟨b, b', d, d', by simp, hs, by rw [h2 k hn'.1, List.getElem?_set_self hk]⟩
        | succ j =>
          have z' : as[j]? = some (.ref i) := by simpa using z
          obtain ⟨c, c', e, e', k1, k2, k3⟩ := h3 j i z'
          have ne : k ≠ i := fun q => hn'.1 (q ▸ mem_refs z')
          rw [List.getElem?_set_ne ne] at k2
          exact ⟨c, c', e, e', by simpa using k1, k2, k3⟩
    · cases g1
theorem refs_mem : ∀ {as : List Arg} {i : Nat}, i ∈ refsOf as → ∃ j : Nat, as[j]? = some (.ref i)
  | [], i, h => by cases h
  | .val d :: as, i, h => by
    obtain ⟨j, hj⟩ := refs_mem (as := as) h
    exact ⟨j + 1, by simpa using hj⟩
  | .ref k :: as, i, h => by
    rcases List.mem_cons.mp (show i ∈ k :: refsOf as from h) with rfl | h
    · exact ⟨0, by simp⟩
    · obtain ⟨j, hj⟩ := refs_mem (as := as) h
      exact ⟨j + 1, by simpa using hj⟩
theorem call_back {as : List Arg} {ss ps : List Sl} {vs : List V} {r : Ty.R} {v : V} (R : RepE Y ρ σ H) (ha : argSls ρ as = some ss) (ra : ResAs Y ρ σ H as vs) (hn : (refsOf as).Nodup) (hb : backArgs as ps ρ = some ρ') (K : RetOk (calY Y ρ σ H) ss ps vs H H' r v) :
    Post Y ρ ρ' σ H H' ∧ ResV Y ρ' σ H H' r v := by
  obtain ⟨b1, b2, b3⟩ := backArgs_get hb hn
  have lent : ∀ a, OwnAt (ss.map some) (vs.map some) a → OwnAt ρ σ a := fun a z => by
    obtain ⟨j, i, b, d, _, h1, h2, _⟩ := own_call ha ra z
    exact ⟨i, b, d, h1, h2⟩
  have fr : Fr (OwnAt ρ σ) H H' := K.frm.mono lent
  -- the slots: what is its own behind the call was so ahead of it
  have slot : ∀ (i : Nat) (b : Bool) (d : D), ρ'[i]? = some (some (.own b d)) → (∃ (j : Nat) (d0 : D), as[j]? = some (.ref i) ∧ ρ[i]? = some (some (.own b d0))) ∨ (i ∉ refsOf as ∧ ρ[i]? = some (some (.own b d))) := fun i b d e => by
    by_cases hi : i ∈ refsOf as
    · obtain ⟨j, hj⟩ := refs_mem hi
      obtain ⟨c, c', d0, d', _, k2, k3⟩ := b3 j i hj
      rw [k3] at e
      cases e
      exact .inl ⟨j, d0, hj, k2⟩
    · rw [b2 i hi] at e
      exact .inr ⟨hi, e⟩
  have ownsub : ∀ a, OwnAt ρ' σ a → OwnAt ρ σ a := fun a ⟨i, b, d, e1, e2⟩ => by
    rcases slot i b d e1 with ⟨j, d0, _, h⟩ | ⟨_, h⟩
    · exact ⟨i, b, d0, h, e2⟩
    · exact ⟨i, b, d, h, e2⟩
  have lentpar : Lent ρ ρ' := fun i d e => by
    by_cases hi : i ∈ refsOf as
    · obtain ⟨j, hj⟩ := refs_mem hi
      obtain ⟨c, c', d0, d', _, k2, k3⟩ := b3 j i hj
      rw [e] at k2
      cases k2
      exact ⟨d', k3⟩
    · exact ⟨d, by rw [b2 i hi]; exact e⟩
  -- the general form: nothing but N more is kept apart
  have rep : ∀ (Y' : Yc) (N : Addr → Prop), Y'.K = Y.K → Y'.tb = Y.tb → (∀ a, Y'.O a ↔ Y.O a ∨ N a) → (∀ a, Y'.T a ↔ Y.T a ∨ N a) → (∀ a, N a → H a = none ∧ H' a ≠ none ∧ NewP r v a) → RepE Y' ρ' σ H' := by
    intro Y' N hK hT hO hTT hN
    have sub : ∀ a, Ex_ Y' ρ' σ a → Ex_ Y ρ σ a ∨ N a := fun a z => by
      rcases z with z | z
      · exact ((hO a).mp z).elim (fun q => .inl (.inl q)) .inr
      · exact .inl (.inr (ownsub a z))
    have k : Keep (cut H (Ex_ Y ρ σ)) (cut H' (Ex_ Y' ρ' σ)) := fr.cut (fun a z => .inr z) fun a z => (sub a z).elim .inl fun q => .inr (hN a q).1
    have k2 : Keep (cut H' fun x => (calY Y ρ σ H).O x ∨ NewP r v x) (cut H' (Ex_ Y' ρ' σ)) := cut_sub fun a z => (sub a z).elim .inl fun q => .inr (hN a q).2.2
    refine ⟨b1.trans R.len, fun i d e => ?_, fun i b d e => ?_, fun i i' b b' d d' a e1 e2 e3 e4 => ?_, fun a z => ?_, fun a z => ?_, by rw [hT]; exact K.tb⟩
    · have hi : i ∉ refsOf as := fun q => by
        obtain ⟨j, hj⟩ := refs_mem q
        obtain ⟨c, c', d0, d', _, _, k3⟩ := b3 j i hj
        rw [k3] at e; cases e
      rw [b2 i hi] at e
      obtain ⟨u, h1, h2⟩ := R.fro i d e
      exact ⟨u, h1, by rw [hK]; exact h2.mono k⟩
    · rcases slot i b d e with ⟨j, d0, hj, h⟩ | ⟨hi, h⟩
      · obtain ⟨a, h1, h2, h3, h4⟩ := R.own i b d0 h
        obtain ⟨c, c', e0, d', k1, k2', k3⟩ := b3 j i hj
        rw [e] at k3
        cases k3
        obtain ⟨v', g1, g2⟩ := ra.get j _ hj
        have g3 : σ[i]? = some (some v') := g2
        rw [h1] at g3
        cases g3
        obtain ⟨s, hs⟩ : ∃ s, ss[j]? = some s := ⟨_, List.getElem?_eq_getElem (by
          rw [argSls_len ha]
          rcases Nat.lt_or_ge j as.length with q | q
          · exact q
          · rw [List.getElem?_eq_none q] at hj; cases hj)⟩
        obtain ⟨x, q1, q2⟩ := argSls_get ha j s hs
        rw [hj] at q1
        cases q1
        simp only [argSl, h] at q2
        cases q2
        obtain ⟨d2, a2, p1, p2, p3⟩ := K.par j d0 hs
        rw [g1] at p2
        cases p2
        rw [k1] at p1
        cases p1
        refine ⟨a, h1, ?_, fun q => (hO a).mpr (.inl (h3 q)), fun q z => ?_⟩
        · rw [hK]
          exact p3.mono (fun _ h _ => h) k2
        · rcases (hTT a).mp z with z | z
          · exact h4 q z
          · obtain ⟨ob, hob, _⟩ := h2.tr
            rw [(hN a z).1] at hob; cases hob
      · obtain ⟨a, h1, h2, h3, h4⟩ := R.own i b d h
        have na : ¬ OwnAt (ss.map some) (vs.map some) a := fun z => by
          obtain ⟨j, i', b', d', hj, g1, g2, _⟩ := own_call ha ra z
          have ii := R.inj i i' b b' d d' a h g1 h1 g2
          subst ii
          exact hi (mem_refs hj)
        refine ⟨a, h1, ?_, fun q => (hO a).mpr (.inl (h3 q)), fun q z => ?_⟩
        · rw [hK]
          exact h2.mono (fun ob z n => K.frm.same a ob z na n) k
        · rcases (hTT a).mp z with z | z
          · exact h4 q z
          · obtain ⟨ob, hob, _⟩ := h2.tr
            rw [(hN a z).1] at hob; cases hob
    · have get : ∀ (i : Nat) (b : Bool) (d : D), ρ'[i]? = some (some (.own b d)) → ∃ b0 d0, ρ[i]? = some (some (.own b0 d0)) := fun i b d e => by
        rcases slot i b d e with ⟨j, d0, _, h⟩ | ⟨_, h⟩
        · exact ⟨b, d0, h⟩
        · exact ⟨b, d, h⟩
      obtain ⟨_, _, z1⟩ := get _ _ _ e1
      obtain ⟨_, _, z2⟩ := get _ _ _ e2
      exact R.inj i i' _ _ _ _ a z1 z2 e3 e4
    · rcases (hO a).mp z with z | z
      · exact (hTT a).mpr (.inl (R.sub a z))
      · exact (hTT a).mpr (.inr z)
    · rcases (hTT a).mp z with z | z
      · exact fr.some a (R.trk a z)
      · exact (hN a z).2.1
  have R' : RepE Y ρ' σ H' := rep Y (fun _ => False) rfl rfl (fun a => by simp) (fun a => by simp) (fun a z => z.elim)
  refine ⟨⟨R', fr, ownsub, lentpar⟩, ?_⟩
  have subE : ∀ a, Ex_ Y ρ' σ a → Ex_ Y ρ σ a := fun a z => z.elim .inl fun q => .inr (ownsub a q)
  obtain ⟨d, nw⟩ := r
  cases nw with
  | false => exact (show Rp Y.K (cut H' (Ex_ Y ρ σ)) v d from K.res).mono (cut_sub subE)
  | true =>
    obtain ⟨q, xs, ds, rfl, rfl, h1, h2, h3⟩ := K.res
    have hq : H q = none := by
      cases z : H q with
      | none => rfl
      | some o => exact absurd (show H q ≠ none by rw [z]; exact fun w => by cases w) h1
    refine ⟨q, xs, ds, rfl, rfl, hq, h2, fun z => R.exTr (subE q z) hq, h3.mono (cut_sub fun a z => ?_), rep (Y.plus q) (fun a => a = q) rfl rfl (fun a => Iff.rfl) (fun a => Iff.rfl) fun a z => ?_⟩
    · exact (plus_ex.mp z).elim (fun w => .inl (subE a w)) .inr
    · subst z
      exact ⟨hq, (by rw [h2]; exact fun w => by cases w), rfl, rfl⟩
end
end Ty
set_option autoImplicit false
set_option maxHeartbeats 200000
/-! T7d: the rules for calls. -/
namespace Ty
open PySem.Spec PyProof.Rows L2 PySem
/-- how positional values us and values ws under the names ks come into the parameters -/
def KwB (K : PySem.W.Frag) (fd : FuncData) (ps ks : List Str) (n : Nat) (π : List Nat) : Prop :=
  ∀ (s : Shared) (us ws : List Value), K.In s.heap → us.length = n → ws.length = ks.length → BindsTo s fd ⟨us, ks.zip ws⟩ (ps.zip (π.map fun j => (us ++ ws).getD j .none))
def tCallG (sp : Spt) (t : TA) : TE := fun σ H Q => t σ H fun vs H1 => sp vs H1 Q
def tCallGK (sp : Spt) (n m : Nat) (π : List Nat) (t tk : TA) : TE := fun σ H Q => t σ H fun vs H1 => tk σ H1 fun zs H2 => vs.length = n ∧ zs.length = m ∧ sp (π.map fun j => (vs ++ zs).getD j .non) H2 Q
section
variable {X : Cx} {Z : Zc} {Y : Yc} {Φ : Fns} {Pp : Pars} {e e1 e2 e3 : Expr} {es : List Expr} {kws : List Keyword} {pos p p2 p3 kpos : Pos} {t t1 t2 t3 : Ex} {as ks' : Ars} {ρ ρ' ρ'' : Env} {σ σ' : L2.St} {H H' : Hp} {k : Nat} {fa : Addr} {fd : FuncData} {ps ks : List Str} {sp : Spt} {x f : Str} {ta tk : TA} {n : Nat} {π : List Nat} {nm : Option Str}
theorem runG {pins : List (Addr × Obj)} {s : Shared} {Q : VK} {us us' : List Value} {kw : List (Str × Value)} {vs : List V} (F : FnG X.prog X.w X.K X.mg X.base k fa fd ps sp) (hr : Room k X.A) (hg : X.A.guards = some []) (hb : BindsTo s fd ⟨us, kw⟩ (ps.zip us'))
    (I : Inv X pins σ H s) (r : Vals vs us') (h : sp vs H Q) : wpAny (model X.prog X.w) X.A (call (.ref fa) us kw) (EP X pins σ Q) X.xe s := by
  refine wpAny_call (codeAny_mono (F.run X.A X.stack s H ⟨us, kw⟩ us' vs Q hr hg I.env0 hb r h) fun r s' hq => ?_)
  cases r with
  | error e => exact hq.elim
  | ok fl =>
    cases fl with
    | ret u => exact I.after hq
    | next => exact hq.elim
    | brk => exact hq.elim
    | cont => exact hq.elim
theorem pe_callG (F : FnG X.prog X.w X.K X.mg X.base k fa fd ps sp) (hr : Room k X.A) (hgd : X.A.guards = some []) (hg : Gl X x) (hm : X.mg x = some (.ref fa)) (hk : PySem.W.keepIn X.K (.ref fa) = true) (hb : Binds X.K fd ps [])
    (ha : PA X (e :: es) ta) (hdb : (x == ("__debug__" : Str)) = false) (he : starEach (e :: es) X.env = (false, eval e X.env) :: starEach es X.env) (hpl : (backTo pos (starEach es X.env)).any (·.1) = false) : PE X (.Call (.Name x p) (e :: es) [] pos) (tCallG sp ta) := by
  refine (⟨fun pins s σ H Q I h => ?_⟩)
  refine (wpAny_Call_Name_kw (ld_glob I hg hm ?_ hdb))
  refine (PySem.W.callWith_K (h₀ := X.base) I.ok.mod.kin hk (thn (ha.run pos pins s σ H _ I h) fun us s1 ⟨vs, H1, I1, r, q⟩ => ⟨I1.kIn, ?_⟩) he hpl)
  have hl : (us ++ []).length = ps.length := by rw [List.append_nil, ← r.length]; exact F.len _ _ _ q
  have b := hb s1 us I1.kIn hl
  rw [List.append_nil] at b
  exact runG F hr hgd b I1 r q
theorem pe_callG0 (F : FnG X.prog X.w X.K X.mg X.base k fa fd ps sp) (hr : Room k X.A) (hgd : X.A.guards = some []) (hg : Gl X x) (hm : X.mg x = some (.ref fa)) (hk : PySem.W.keepIn X.K (.ref fa) = true) (hb : Binds X.K fd ps []) (hdb : (x == ("__debug__" : Str)) = false) :
    PE X (.Call (.Name x p) [] [] pos) (tCallG sp tNil) := by
  refine (⟨fun pins s σ H Q I h => ?_⟩)
  refine (wpAny_Call_Name_kw (ld_glob I hg hm ?_ hdb))
  have hl : (([] : List Value) ++ []).length = ps.length := (F.len _ _ _ h)
  have b := hb s [] I.kIn hl
  exact PySem.W.callWith_K0 I.kIn hk (runG (us := []) (us' := []) F hr hgd b I .nil h)
theorem vals_getD : ∀ {vs : List V} {us : List Value}, Vals vs us → ∀ j, RelV (vs.getD j .non) (us.getD j .none)
  | _, _, .nil, j => by simp; rfl
  | _, _, .cons a b, 0 => by simpa using a
  | _, _, .cons a b, j + 1 => by simpa using vals_getD b j
theorem vals_perm {vs : List V} {us : List Value} (r : Vals vs us) : ∀ π : List Nat, Vals (π.map fun j => vs.getD j .non) (π.map fun j => us.getD j .none)
  | [] => .nil
  | j :: π => .cons (vals_getD r j) (vals_perm r π)
theorem pe_callGK0 (F : FnG X.prog X.w X.K X.mg X.base k fa fd ps sp) (hr : Room k X.A) (hgd : X.A.guards = some []) (hg : Gl X x) (hm : X.mg x = some (.ref fa)) (hk : PySem.W.keepIn X.K (.ref fa) = true) (hb : KwB X.K fd ps ks 0 π) (hkw : PK X kws tk) (hdb : (x == ("__debug__" : Str)) = false)
    (hall : (backToKw pos (keywordEach kws X.env)).all (·.1.isSome) = true) (hks : (backToKw pos (keywordEach kws X.env)).filterMap (·.1) = ks) (hpl : ((backTo pos (starEach [] X.env)).any (·.1) || (backToKw pos (keywordEach kws X.env)).any (·.1.isNone)) = false) :
    PE X (.Call (.Name x p) [] kws pos) (tCallGK sp 0 ks.length π tNil tk) := by
  refine (⟨fun pins s σ H Q I h => ?_⟩)
  refine (wpAny_Call_Name_kw (ld_glob I hg hm ?_ hdb))
  refine PySem.W.callWith_KW0 (first := []) (h₀ := X.base) I.ok.mod.kin hk hall (thn (hkw.run pos pins s σ H _ I h) fun ws s2 ⟨zs, H2, I2, rz, q1, q2, q3⟩ => ⟨I2.kIn, ?_⟩) hpl
  rw [hks]
  exact runG (us := []) F hr hgd (hb s2 [] ws I2.kIn rfl (by rw [← rz.length]; exact q2)) I2 (vals_perm (vs := [] ++ zs) (us := [] ++ ws) rz π) q3
theorem pe_callGK (F : FnG X.prog X.w X.K X.mg X.base k fa fd ps sp) (hr : Room k X.A) (hgd : X.A.guards = some []) (hg : Gl X x) (hm : X.mg x = some (.ref fa)) (hk : PySem.W.keepIn X.K (.ref fa) = true) (hb : KwB X.K fd ps ks n π) (ha : PA X (e :: es) ta) (hkw : PK X kws tk) (hdb : (x == ("__debug__" : Str)) = false)
    (hall : (backToKw pos (keywordEach kws X.env)).all (·.1.isSome) = true) (hks : (backToKw pos (keywordEach kws X.env)).filterMap (·.1) = ks) (he : starEach (e :: es) X.env = (false, eval e X.env) :: starEach es X.env)
    (hpl : ((backTo pos (starEach (e :: es) X.env)).any (·.1) || (backToKw pos (keywordEach kws X.env)).any (·.1.isNone)) = false) :
    PE X (.Call (.Name x p) (e :: es) kws pos) (tCallGK sp n ks.length π ta tk) := by
  refine (⟨fun pins s σ H Q I h => ?_⟩)
  refine (wpAny_Call_Name_kw (ld_glob I hg hm ?_ hdb))
  refine PySem.W.callWith_KW (first := []) (h₀ := X.base) I.ok.mod.kin hk hall (thn (ha.run pos pins s σ H _ I h) fun us s1 ⟨vs, H1, I1, r, q⟩ => ?_) hpl he
  refine thn (hkw.run pos pins s1 σ H1 _ I1 q) fun ws s2 ⟨zs, H2, I2, rz, q1, q2, q3⟩ => ⟨I2.kIn, ?_⟩
  rw [hks]
  exact runG F hr hgd (hb s2 us ws I2.kIn (by rw [← r.length]; exact q1) (by rw [← rz.length]; exact q2)) I2 (vals_perm (r.append rz) π) q3

/-! ### by the evaluator's forms -/
theorem callF_ok {xs : List Arg} {r : Ty.R} (h : callF Φ f xs ρ = .ok r ρ') : (refsOf xs).Nodup ∧ ∃ ss ps, argSls ρ xs = some ss ∧ Φ f ss = .ok r ps ∧ backArgs xs ps ρ = some ρ' := by
  unfold callF at h
  split at h
  · rename_i hn
    split at h
    · rename_i ss hs
      split at h
      · rename_i r' ps hr
        split at h
        · rename_i ρ1 hb
          cases h
          exact ⟨of_decide_eq_true hn, ss, ps, hs, hr, hb⟩
        · cases h
      · cases h
    · cases h
  · cases h
theorem call_sp {xs : List Arg} {vs : List V} {r : Ty.R} {Q : VK} (o : Of Z Y) (R : RepE Y ρ σ H) (ra : ResAs Y ρ σ H xs vs) (h : callF Φ f xs ρ = .ok r ρ') (q : ∀ v H', Post Y ρ ρ' σ H H' → ResV Y ρ' σ H H' r v → Q v H') : spT Z (Φ f) vs H Q := by
  obtain ⟨hn, ss, ps, h1, h2, h3⟩ := callF_ok h
  refine ⟨calY Y ρ σ H, ss, ps, r, o, call_rep R h1 ra hn, h2, fun v H' K => ?_⟩
  obtain ⟨z1, z2⟩ := call_back R h1 ra hn h3 K
  exact q v H' z1 z2
theorem m_call (c : Cd X Z) (F : FnG X.prog X.w X.K X.mg X.base k fa fd ps (spT Z (Φ f))) (hr : Room k X.A) (hm : X.mg x = some (.ref fa)) (hk : PySem.W.keepIn X.K (.ref fa) = true) (hb : Binds X.K fd ps [])
    (ha : eA X Z (e :: es) (evA Φ Pp as)) (hg : Gl X x := by rfl) (hdb : (x == ("__debug__" : Str)) = false := by decide) (he : starEach (e :: es) X.env = (false, eval e X.env) :: starEach es X.env := by rfl) (hpl : (backTo pos (starEach es X.env)).any (·.1) = false := by rfl) :
    eM X Z (.Call (.Name x p) (e :: es) [] pos) (ev Φ Pp (.call f as)) := fun Y o => pe_imp (pe_callG F hr c.guards hg hm hk hb (ha Y o) hdb he hpl) fun σ H Q h => by
  rw [ev] at h
  obtain ⟨ρ, r, ρ', R, e, q⟩ := tM_of h
  obtain ⟨xs, ρ1, e1, e2⟩ := bnd_ok e
  exact tA_mk R e1 fun vs H1 P1 ra => call_sp o P1.rep ra e2 fun v H' P2 r2 => q v H' (P1.trans P2) (r2.back P1.none)
theorem m_call0 (c : Cd X Z) (F : FnG X.prog X.w X.K X.mg X.base k fa fd ps (spT Z (Φ f))) (hr : Room k X.A) (hm : X.mg x = some (.ref fa)) (hk : PySem.W.keepIn X.K (.ref fa) = true) (hb : Binds X.K fd ps [])
    (hg : Gl X x := by rfl) (hdb : (x == ("__debug__" : Str)) = false := by decide) : eM X Z (.Call (.Name x p) [] [] pos) (ev Φ Pp (.call f .nil)) := fun Y o => pe_imp (pe_callG0 F hr c.guards hg hm hk hb hdb) fun σ H Q h => by
  rw [ev, evA] at h
  obtain ⟨ρ, r, ρ', R, e, q⟩ := tM_of h
  exact call_sp o R .nil (show callF Φ f [] ρ = .ok r ρ' from e) q
/-! keywords -/
def eK (X : Cx) (Z : Zc) (kws : List Keyword) (m : M (List Arg)) : Prop := ∀ Y, Of Z Y → PK X kws (tA Y m)
theorem pk_imp {t t' : TA} (h : PK X kws t) (i : ∀ σ H Q, t' σ H Q → t σ H Q) : PK X kws t' := ⟨fun pos pins s σ H Q I q => h.run pos pins s σ H Q I (i σ H Q q)⟩
theorem k_nil : eK X Z [] (evA Φ Pp .nil) := fun Y o => pk_imp pk_nil fun σ H Q h => by
  rw [evA] at h
  obtain ⟨ρ, b, ρ', R, e, q⟩ := tA_of h
  cases e
  exact q [] H (.refl R) .nil
theorem k_val (h1 : eM X Z e (ev Φ Pp t)) (h2 : eK X Z kws (evA Φ Pp as)) : eK X Z (⟨nm, e, kpos⟩ :: kws) (evA Φ Pp (.val t as)) := fun Y o => pk_imp (pk_cons (h1 Y o) (h2 Y o)) fun σ H Q h => by
  rw [evA] at h
  obtain ⟨ρ, b, ρ', R, e, q⟩ := tA_of h
  obtain ⟨r, ρ1, e1, e2⟩ := bnd_ok e
  obtain ⟨xs, ρ2, e3, e4⟩ := bnd_ok e2
  cases e4
  exact tM_mk R e1 fun v H1 P1 r1 => tA_mk P1.rep e3 fun vs H2 P2 r2 => q _ _ (P1.trans P2) (.cons (P2.resA (b := .val r.1) r1.rp) r2)
theorem resAs_append {xs ys : List Arg} {vs ws : List V} (h : ResAs Y ρ σ H xs vs) (h' : ResAs Y ρ σ H ys ws) : ResAs Y ρ σ H (xs ++ ys) (vs ++ ws) := by
  induction h with
  | nil => exact h'
  | cons a _ ih => exact .cons a ih
theorem resAs_mono {xs : List Arg} {vs : List V} (P : Post Y ρ ρ' σ H H') (h : ResAs Y ρ σ H xs vs) : ResAs Y ρ' σ H' xs vs := by
  induction h with
  | nil => exact .nil
  | cons a _ ih => exact .cons (P.resA a) ih
theorem resAs_perm {xs : List Arg} {vs : List V} (h : ResAs Y ρ σ H xs vs) : ∀ {π : List Nat} {ys : List Arg}, permA π xs = some ys → ResAs Y ρ σ H ys (π.map fun j => vs.getD j .non)
  | [], ys, e => by
    simp [permA] at e
    subst e
    exact .nil
  | j :: π, ys, e => by
    simp only [permA, List.mapM_cons, Option.bind_eq_bind, Option.pure_def, Option.bind_eq_some_iff, Option.some.injEq] at e
    obtain ⟨a, h1, zs, h2, rfl⟩ := e
    obtain ⟨v, h3, h4⟩ := h.get j a h1
    have e5 : vs.getD j .non = v := by rw [List.getD_eq_getElem?_getD, h3]; rfl
    rw [List.map_cons, e5]
    exact .cons h4 (resAs_perm h h2)
end
end Ty
set_option autoImplicit false
set_option maxHeartbeats 200000
/-! T7e: calls with keywords; a def of the table. -/
namespace Ty
open PySem.Spec PyProof.Rows L2 PySem
def arLen : Ars → Nat
  | .nil => 0
  | .val _ as => arLen as + 1
  | .ref _ as => arLen as + 1
section
variable {X : Cx} {Z : Zc} {Y : Yc} {Φ : Fns} {Pp : Pars} {e e1 e2 e3 : Expr} {es : List Expr} {kws : List Keyword} {pos p p2 p3 kpos : Pos} {t t1 t2 t3 : Ex} {as ks' : Ars} {ρ ρ' ρ'' : Env} {σ σ' : L2.St} {H H' : Hp} {k : Nat} {fa : Addr} {fd : FuncData} {ps ks : List Str} {sp : Spt} {x f : Str} {ta tk : TA} {n : Nat} {π : List Nat} {nm : Option Str}
theorem evA_len : ∀ {as : Ars} {ρ : Env} {xs : List Arg} {ρ' : Env}, evA Φ Pp as ρ = .ok xs ρ' → xs.length = arLen as
  | .nil, ρ, xs, ρ', h => by rw [evA] at h; cases h; rfl
  | .val t as, ρ, xs, ρ', h => by
    rw [evA] at h
    obtain ⟨r, ρ1, _, h2⟩ := bnd_ok h
    obtain ⟨ys, ρ2, h3, h4⟩ := bnd_ok h2
    cases h4
    rw [List.length_cons, evA_len h3]; rfl
  | .ref i as, ρ, xs, ρ', h => by
    rw [evA] at h
    obtain ⟨r, ρ1, _, h2⟩ := bnd_ok h
    obtain ⟨ys, ρ2, h3, h4⟩ := bnd_ok h2
    cases h4
    rw [List.length_cons, evA_len h3]; rfl
theorem callP_ok {o : Option (List Arg)} {r : Ty.R} (h : callP Φ f o ρ = .ok r ρ') : ∃ xs, o = some xs ∧ callF Φ f xs ρ = .ok r ρ' := by
  cases o with
  | none => cases h
  | some xs => exact ⟨xs, rfl, h⟩
theorem m_callK0 (c : Cd X Z) (F : FnG X.prog X.w X.K X.mg X.base k fa fd ps (spT Z (Φ f))) (hr : Room k X.A) (hm : X.mg x = some (.ref fa)) (hk : PySem.W.keepIn X.K (.ref fa) = true) (hb : KwB X.K fd ps ks 0 π) (hkw : eK X Z kws (evA Φ Pp ks')) (hn : ks.length = arLen ks' := by rfl)
    (hg : Gl X x := by rfl) (hdb : (x == ("__debug__" : Str)) = false := by decide) (hall : (backToKw pos (keywordEach kws X.env)).all (·.1.isSome) = true := by rfl) (hks : (backToKw pos (keywordEach kws X.env)).filterMap (·.1) = ks := by rfl)
    (hpl : ((backTo pos (starEach [] X.env)).any (·.1) || (backToKw pos (keywordEach kws X.env)).any (·.1.isNone)) = false := by rfl) : eM X Z (.Call (.Name x p) [] kws pos) (ev Φ Pp (.callK f .nil ks' π)) := fun Y o =>
  pe_imp (pe_callGK0 F hr c.guards hg hm hk hb (hkw Y o) hdb hall hks hpl) fun σ H Q h => by
    rw [ev, evA] at h
    obtain ⟨ρ, r, ρ', R, e, q⟩ := tM_of h
    obtain ⟨xs, ρ1, e1, e2⟩ := bnd_ok (show bnd (evA Φ Pp ks') (fun ys => callP Φ f (permA π ([] ++ ys))) ρ = .ok r ρ' from e)
    refine tA_mk R e1 fun zs H1 P1 ra => ⟨rfl, ?_, ?_⟩
    · rw [← ra.len, evA_len e1, hn]
    · obtain ⟨ys, h1, h2⟩ := callP_ok e2
      exact call_sp o P1.rep (resAs_perm (xs := [] ++ xs) (vs := [] ++ zs) ra h1) h2 fun v H' P2 r2 => q v H' (P1.trans P2) (r2.back P1.none)
theorem m_callK (c : Cd X Z) (F : FnG X.prog X.w X.K X.mg X.base k fa fd ps (spT Z (Φ f))) (hr : Room k X.A) (hm : X.mg x = some (.ref fa)) (hk : PySem.W.keepIn X.K (.ref fa) = true) (hb : KwB X.K fd ps ks n π) (ha : eA X Z (e :: es) (evA Φ Pp as)) (hkw : eK X Z kws (evA Φ Pp ks')) (hn : ks.length = arLen ks' := by rfl) (hn2 : n = arLen as := by rfl)
    (hg : Gl X x := by rfl) (hdb : (x == ("__debug__" : Str)) = false := by decide) (hall : (backToKw pos (keywordEach kws X.env)).all (·.1.isSome) = true := by rfl) (hks : (backToKw pos (keywordEach kws X.env)).filterMap (·.1) = ks := by rfl) (he : starEach (e :: es) X.env = (false, eval e X.env) :: starEach es X.env := by rfl)
    (hpl : ((backTo pos (starEach (e :: es) X.env)).any (·.1) || (backToKw pos (keywordEach kws X.env)).any (·.1.isNone)) = false := by rfl) : eM X Z (.Call (.Name x p) (e :: es) kws pos) (ev Φ Pp (.callK f as ks' π)) := fun Y o =>
  pe_imp (pe_callGK F hr c.guards hg hm hk hb (ha Y o) (hkw Y o) hdb hall hks he hpl) fun σ H Q h => by
    rw [ev] at h
    obtain ⟨ρ, r, ρ', R, e, q⟩ := tM_of h
    obtain ⟨xs0, ρ0, e0, e0'⟩ := bnd_ok e
    obtain ⟨xs, ρ1, e1, e2⟩ := bnd_ok e0'
    refine tA_mk R e0 fun vs H0 P0 ra0 => tA_mk P0.rep e1 fun zs H1 P1 ra => ⟨?_, ?_, ?_⟩
    · rw [← ra0.len, evA_len e0, hn2]
    · rw [← ra.len, evA_len e1, hn]
    · obtain ⟨ys, h1, h2⟩ := callP_ok e2
      have PP := P0.trans P1
      exact call_sp o PP.rep (resAs_perm (resAs_append (resAs_mono P1 ra0) ra) h1) h2 fun v H' P2 r2 => q v H' (PP.trans P2) (r2.back PP.none)
end
/-- a def of the table, by its walk -/
theorem def_ok {P : Program} {w : World} {K : PySem.W.Frag} {mg : Str → Option Value} {base : Heap} {x qual : Str} {st : Stmt} {f : Addr} {fd : FuncData} {N ps : List Str} {k : Nat} {tb : Hp → Prop} {tab : Str → Option Df} {Pp : Pars} {nm : Str} {d : Df} (F : Fun K x qual st f fd) (S : FnScope N ps (defScope st))
    (hd : tab nm = some d) (hN : N.length = d.m) (hm : d.n ≤ d.m) (hp : ps.length = d.n) (ht : TbOk tb)
    (hb : ∀ (cdv : Value) (A : Around) (outer : List PySem.Env) (s : Shared) (H : Hp), Room k (A.deeper (envOfC qual (defScope st) s.heap.objs.size f cdv)) → Cd (cxOf CX0 P w K mg base N qual (defScope st) f cdv A outer s H E0).nox ⟨K, tb⟩ →
      eSs (cxOf CX0 P w K mg base N qual (defScope st) f cdv A outer s H E0).nox ⟨K, tb⟩ (defBody st) (exs (run tab Pp k) Pp d.body)) :
    FnG P w K mg base (k + 1) f fd ps (spT ⟨K, tb⟩ (run tab Pp (k + 1) nm)) := by
  refine fnG_of F S (fun vs H Q h => (body_ok hd hN hm h).1.trans hp.symm) fun cdv A outer s H vs Q hr hg h => ?_
  obtain ⟨_, Y, o, t⟩ := body_ok hd hN hm h
  have un : (A.deeper (envOfC qual (defScope st) s.heap.objs.size f cdv)).units + 70 < cLine := by
    have := hr.un
    omega
  exact ⟨_, hb cdv A outer s H hr ⟨rfl, ht, rfl, un, hg, S.nd⟩ Y o, t⟩
/-- at the lowest level nothing is promised -/
theorem def_zero {P : Program} {w : World} {K : PySem.W.Frag} {mg : Str → Option Value} {base : Heap} {f : Addr} {fd : FuncData} {ps : List Str} {tb : Hp → Prop} {tab : Str → Option Df} {Pp : Pars} {nm : Str} : FnG P w K mg base 0 f fd ps (spT ⟨K, tb⟩ (run tab Pp 0 nm)) :=
  ⟨fun vs H Q ⟨_, _, _, _, _, _, h, _⟩ => (by cases h), fun A outer s H args us vs Q _ _ _ _ _ ⟨_, _, _, _, _, _, h, _⟩ => (by cases h)⟩
end Ty
set_option autoImplicit false
set_option maxHeartbeats 200000
/-! T8a: all, any, sum over a source that works while it is asked. -/
namespace Ty
open PySem.Spec PyProof.Rows PySem
def IsV : D → Value → Prop
  | .bool b, v => v = .bool b
  | .int i, v => (∃ t, v = .int i t)
  | _, _ => False
/-- an own list of the consumer: where, what -/
abbrev Pot := Option (Addr × Array Value × Nat)
def potO (acc : Array Value) (c : Nat) : Obj := { cls := .type "list", dict := none, data := .seq acc c, slots := #[] }
/-- a source: St p ys s: it will give ys, the consumer's list being p; Fn p s: it will not be asked any more -/
structure Src (prog : Program) (w : World) (A : Around) (I : Addr) (stop_ : D → Bool) (St : Pot → List D → Shared → Prop) (Fn : Pot → Shared → Prop) : Prop where
  item : ∀ p d ys s (Q : Option Value → Shared → Prop) (E : Value → Shared → Prop), St p (d :: ys) s → (∀ v s', IsV d v → (stop_ d = true → Fn p s') → (stop_ d = false → St p ys s') → Q (some v) s') → wpAny (model prog w) A (pyNext (.ref I)) Q E s
  done : ∀ p s (Q : Option Value → Shared → Prop) (E : Value → Shared → Prop), St p [] s → (∀ s', Fn p s' → Q none s') → wpAny (model prog w) A (pyNext (.ref I)) Q E s
  pot : ∀ S acc c ys s, St (some (S, acc, c)) ys s → s.heap.get? S = some (potO acc c)
  put : ∀ S acc c acc' c' ys s h' tk, St (some (S, acc, c)) ys s → s.toks ≤ tk → Heap.SameBut S s.heap h' → h'.get? S = some (potO acc' c') → St (some (S, acc', c')) ys { s with heap := h', toks := tk }
section
variable {prog : Program} {w : World} {A : Around} {I : Addr} {St : Pot → List D → Shared → Prop} {Fn : Pot → Shared → Prop} {R : Result → Shared → Prop}
theorem all_src (W : Src prog w A.in1 I (fun d => !isT d) St Fn) : ∀ (ys : List D) (s : Shared), (∀ y ∈ ys, isBool y = true) → St none ys s → (∀ s', Fn none s' → R (.ok (.ret (.bool (ys.all isT)))) s') → codeAny (model prog w) A (.builtin "all.loop" ⟨[.ref I], []⟩) R s
  | [], s, _, st, q => by
    refine codeAny_builtin F.entry_all_loop ?_ <;> rw [Around.under_plainId F.plain_all_loop _]
    show wpAny (model prog w) A.in1 (pyNext (.ref I) >>= _) _ _ s
    exact wpAny_bind (W.done none s _ _ st fun s' f => wpAny_bind (wpAny_rule (wpAny_pure (q s' f))))
  | d :: ys, s, hb, st, q => by
    refine codeAny_builtin F.entry_all_loop ?_ <;> rw [Around.under_plainId F.plain_all_loop _]
    show wpAny (model prog w) A.in1 (pyNext (.ref I) >>= _) _ _ s
    refine wpAny_bind (W.item none d ys s _ _ st fun v s' hv fn' st' => ?_)
    have h1 := hb d (.head _)
    cases d with
    | bool b =>
      cases hv
      refine wpAny_bind (wpAny_holding (wpAny_truthy_bool (wpAny_bind (wpAny_letGo ?_))))
      cases b with
      | true => exact wpAny_pure ⟨plainId_quiet F.plain_all_loop _, all_src W ys s' (fun y hy => hb y (.tail _ hy)) (st' rfl) fun s'' f => by simpa [isT] using q s'' f⟩
      | false => exact wpAny_bind (wpAny_rule (wpAny_pure (by simpa [isT] using q s' (fn' rfl))))
    | _ => cases h1
theorem any_src (W : Src prog w A.in1 I isT St Fn) : ∀ (ys : List D) (s : Shared), (∀ y ∈ ys, isBool y = true) → St none ys s → (∀ s', Fn none s' → R (.ok (.ret (.bool (ys.any isT)))) s') → codeAny (model prog w) A (.builtin "any.loop" ⟨[.ref I], []⟩) R s
  | [], s, _, st, q => by
    refine codeAny_builtin F.entry_any_loop ?_ <;> rw [Around.under_plainId F.plain_any_loop _]
    show wpAny (model prog w) A.in1 (pyNext (.ref I) >>= _) _ _ s
    exact wpAny_bind (W.done none s _ _ st fun s' f => wpAny_bind (wpAny_rule (wpAny_pure (q s' f))))
  | d :: ys, s, hb, st, q => by
    refine codeAny_builtin F.entry_any_loop ?_ <;> rw [Around.under_plainId F.plain_any_loop _]
    show wpAny (model prog w) A.in1 (pyNext (.ref I) >>= _) _ _ s
    refine wpAny_bind (W.item none d ys s _ _ st fun v s' hv fn' st' => ?_)
    have h1 := hb d (.head _)
    cases d with
    | bool b =>
      cases hv
      refine wpAny_bind (wpAny_holding (wpAny_truthy_bool (wpAny_bind (wpAny_letGo ?_))))
      cases b with
      | false => exact wpAny_pure ⟨plainId_quiet F.plain_any_loop _, any_src W ys s' (fun y hy => hb y (.tail _ hy)) (st' rfl) fun s'' f => by simpa [isT] using q s'' f⟩
      | true => exact wpAny_bind (wpAny_rule (wpAny_pure (by simpa [isT] using q s' (fn' rfl))))
    | _ => cases h1
def sumD : List D → Int
  | [] => 0
  | .int i :: r => i + sumD r
  | _ :: r => sumD r
theorem sum_src (W : Src prog w A.in1 I (fun _ => false) St Fn) (S : Addr) : ∀ (ys : List D) (s : Shared) (a : Int) (tA : Tok) (c : Nat) (st : Int), (st = 0 ∨ st = 2) → (∀ y ∈ ys, isInt y = true) → St (some (S, #[.int a tA], c)) ys s →
    (∀ s' p t', Fn p s' → (∃ acc c', p = some (S, acc, c')) → R (.ok (.ret (.int (a + sumD ys) t'))) s') → codeAny (model prog w) A (.builtin "sum.loop" ⟨[.ref I, .ref S, rawInt st, rawInt 0], []⟩) R s
  | [], s, a, tA, c, st, _, _, h, q => by
    refine codeAny_builtin F.entry_sum_loop ?_ <;> rw [Around.under_plainId F.plain_sum_loop _]
    show wpAny (model prog w) A.in1 (seqItems? (.ref S) >>= _) _ _ s
    refine wpAny_bind (wpAny_seqItems (W.pot _ _ _ _ _ h) rfl ?_)
    show wpAny (model prog w) A.in1 (tryCatch (pyNext (.ref I)) _ >>= _) _ _ s
    refine wpAny_bind (wpAny_tryCatch (W.done _ s _ _ h fun s' f => wpAny_pure ?_))
    have z := q s' _ tA f ⟨_, _, rfl⟩
    rw [show a + sumD [] = a by simp [sumD]] at z
    exact z
  | d :: ys, s, a, tA, c, st, h2, hb, h, q => by
    refine codeAny_builtin F.entry_sum_loop ?_ <;> rw [Around.under_plainId F.plain_sum_loop _]
    show wpAny (model prog w) A.in1 (seqItems? (.ref S) >>= _) _ _ s
    refine wpAny_bind (wpAny_seqItems (W.pot _ _ _ _ _ h) rfl ?_)
    show wpAny (model prog w) A.in1 (tryCatch (pyNext (.ref I)) _ >>= _) _ _ s
    refine wpAny_bind (wpAny_tryCatch (W.item _ d ys s _ _ h fun v s' hv _ h' => ?_))
    replace h' := h' rfl
    have h1 := hb d (.head _)
    cases d with
    | int i =>
      obtain ⟨t, rfl⟩ := hv
      have hS := W.pot _ _ _ _ _ h'
      have fin : ∀ s'' p t', Fn p s'' → (∃ acc c', p = some (S, acc, c')) → R (.ok (.ret (.int (a + i + sumD ys) t'))) s'' := fun s'' p t' f e => by
        have z := q s'' p t' f e
        rw [show a + sumD (.int i :: ys) = a + i + sumD ys by simp [sumD]; omega] at z
        exact z
      rcases h2 with rfl | rfl
      · show wpAny _ A.in1 (if (_ : Bool) = true then (mkInt (a + i) >>= _) else _) _ _ _
        split
        · refine (wpAny_bind (wpAny_mkInt ?_))
          show wpAny _ A.in1 (updateSeq S (fun _ => #[.int (a + i) s'.toks]) >>= _) _ _ _
          refine wpAny_bind (wpAny_updateSeq hS rfl (wpAny_pure ⟨plainId_quiet F.plain_sum_loop _, ?_⟩))
          exact sum_src W S ys _ (a + i) s'.toks c 0 (.inl rfl) (fun y hy => hb y (.tail _ hy)) (W.put _ _ _ _ _ _ s' _ _ h' (Nat.le_succ _) (Heap.SameBut.update ..) (Heap.get?_update_self _ hS rfl)) fin
        · refine wpAny_bind (wpAny_rule (wpAny_bind (wpAny_attempt (wpAny_holding (wpAny_add_int ?_)))))
          show wpAny _ A.in1 (updateSeq S (fun _ => #[.int (a + i) s'.toks]) >>= _) _ _ _
          refine (wpAny_bind (wpAny_updateSeq hS rfl ?_))
          have hS2 := Heap.get?_update_self (Obj.mapSeq fun _ => #[Value.int (a + i) s'.toks]) hS rfl
          refine wpAny_bind (wpAny_letGo (wpAny_bind (wpAny_updateSeq hS2 rfl (wpAny_pure ⟨plainId_quiet F.plain_sum_loop _, ?_⟩))))
          have p1 := W.put _ _ _ _ _ _ s' _ (s'.toks + 1) h' (Nat.le_succ _) (Heap.SameBut.update (f := Obj.mapSeq fun _ => #[Value.int (a + i) s'.toks]) ..) hS2
          exact sum_src W S ys _ (a + i) s'.toks _ 2 (.inr rfl) (fun y hy => hb y (.tail _ hy)) (W.put _ _ _ _ _ _ _ _ _ p1 (Nat.le_refl _) (Heap.SameBut.update ..) (Heap.get?_update_self _ hS2 rfl)) fin
      · show wpAny _ A.in1 ((holding [Value.int i t] (binaryOp .Add (.int a tA) (.int i t))).attempt >>= _) _ _ _
        refine (wpAny_bind (wpAny_attempt (wpAny_holding (wpAny_add_int ?_))))
        show wpAny _ A.in1 (updateSeq S (fun _ => #[.int (a + i) s'.toks]) >>= _) _ _ _
        refine (wpAny_bind (wpAny_updateSeq hS rfl ?_))
        have hS2 := Heap.get?_update_self (Obj.mapSeq fun _ => #[Value.int (a + i) s'.toks]) hS rfl
        refine wpAny_bind (wpAny_letGo (wpAny_bind (wpAny_updateSeq hS2 rfl (wpAny_pure ⟨plainId_quiet F.plain_sum_loop _, ?_⟩))))
        have p1 := W.put _ _ _ _ _ _ s' _ (s'.toks + 1) h' (Nat.le_succ _) (Heap.SameBut.update (f := Obj.mapSeq fun _ => #[Value.int (a + i) s'.toks]) ..) hS2
        exact sum_src W S ys _ (a + i) s'.toks _ 2 (.inr rfl) (fun y hy => hb y (.tail _ hy)) (W.put _ _ _ _ _ _ _ _ _ p1 (Nat.le_refl _) (Heap.SameBut.update ..) (Heap.get?_update_self _ hS2 rfl)) fin
    | _ => cases h1
end
end Ty
set_option autoImplicit false
set_option maxHeartbeats 200000
/-! T8b: a generator expression's frame: its turns. -/
namespace Ty
open PySem.Spec PyProof.Rows L2 PySem
/-- the context of a generator expression's frame -/
abbrev Cxg (X : Cx) (s : Shared) (H : Hp) (A : Around) (genv : PySem.Env) (fp : List Addr) (ga : Addr) (go : Obj) : Cx :=
  { X with s_0 := s, H_0 := H, A := A, env := genv, outer := X.stack, stack := genv :: X.stack, ex := fp, fn := fun _ => false, pn := [(ga, go)], xe := fun _ _ => False }
/-- the names and the heap amid the turns -/
structure LcG (Y : Yc) (σ : L2.St) (ρ1 : Env) (H1 Hh : Hp) (ρi : Env) (τ : L2.St) : Prop where
  rep : RepE Y ρi τ Hh
  frm : Fr (OwnAt ρ1 σ) H1 Hh
  sub : ∀ a, OwnAt ρi τ a → OwnAt ρ1 σ a
  par : Lent ρ1 ρi
/-- what belongs to one generator expression -/
structure Gn where
  ga : Addr
  go : Obj
  Xg : Cx
  fp : List Addr
  it : Addr
  tn : Nat → Heap → Prop
  J : L2.It
  tg : Expr
  iter : Expr
  ifs : List Expr
  elt : Expr
  scope : Scope
  gpos : Pos
  vs : List Nat
  σ : L2.St
  Y : Yc
  ρ1 : Env
  ρe : Env
  H1 : Hp
  xs : List D
  f : D → M (Option D)
  stop : D → Bool
  So : Option Addr
  all : List D
/-- what is still to come -/
def Gn.Suf (g : Gn) (ys : List D) : Prop := ∃ pre, g.all = pre ++ ys ∧ ∀ d ∈ pre, g.stop d = false
theorem Gn.Suf.tail {g : Gn} {d : D} {ys : List D} (h : g.Suf (d :: ys)) (hs : g.stop d = false) : g.Suf ys := let ⟨pre, e, q⟩ := h; ⟨pre ++ [d], by rw [e]; simp, fun x hx => by
  rcases (List.mem_append.mp hx) with hx | hx
  · exact q x hx
  · rw [List.mem_singleton.mp hx]; exact hs⟩
theorem Gn.Suf.inj {g : Gn} {xs ys : List D} (h : g.Suf xs) (h' : g.Suf ys) (hl : xs.length = ys.length) : xs = ys := by
  obtain ⟨p, e, _⟩ := h
  obtain ⟨q, e', _⟩ := h'
  exact (List.append_inj' (e.symm.trans e') hl).2
def Gn.code (g : Gn) : Code := .compLoop (.GeneratorExp g.elt [⟨g.tg, g.iter, g.ifs, 0⟩] g.scope g.gpos) 0 (.ref g.it) .none g.Xg.env
def pinsOf (So : Option Addr) (pins : List (Addr × Obj)) : Prop := match So with
  | none => pins = []
  | some S => ∃ acc c, pins = [(S, potO acc c)]
/-- ahead of the i-th turn -/
def Gn.Mid (g : Gn) (i : Nat) (ys : List D) (s : Shared) : Prop := ∃ H ρi pins, pinsOf g.So pins ∧ Inv g.Xg pins (L2.wipe g.σ g.vs) H s ∧ g.tn i s.heap ∧ (∀ b ∈ g.fp, H b = none) ∧ (∀ S, g.So = some S → S ∉ g.fp ∧ g.Xg.s_0.heap.objs.size ≤ S ∧ S ≠ g.ga) ∧
  LcG g.Y g.σ g.ρ1 g.H1 H ρi (L2.wipe g.σ g.vs) ∧ i ≤ g.xs.length ∧ seek g.vs g.f g.stop (g.xs.drop i) ρi = .ok ys g.ρe ∧ g.Suf ys
/-- it will not be asked any more -/
def Gn.End (g : Gn) (s : Shared) : Prop := ∃ H τ pins, pinsOf g.So pins ∧ Inv g.Xg pins τ H s ∧ L2.wipe τ g.vs = L2.wipe g.σ g.vs ∧ LcG g.Y g.σ g.ρ1 g.H1 H g.ρe τ ∧ noOwn g.ρe g.vs = true
def Gn.potSame (g : Gn) (s s' : Shared) : Prop := ∀ S, g.So = some S → s'.heap.get? S = s.heap.get? S
def Gn.R (g : Gn) : GenEnd := fun n s₀ r s => r = .ok .next ∧ n = 0 ∧ g.End s ∧ g.potSame s₀ s
def Gn.P (g : Gn) : Protocol := fun m s₀ v s kap => ∃ d ys, m = ys.length ∧ g.Suf (d :: ys) ∧ IsV d v ∧ g.potSame s₀ s ∧ (g.stop d = true → g.End s) ∧ (g.stop d = false → ∃ i, g.Mid i ys s ∧ ∀ s'', g.Mid i ys s'' → kap (.send .none) s'')
section
variable {Y : Yc} {ρ1 ρi ρ3 : Env} {σ τ τ2 : L2.St} {H1 Hh H4 : Hp}
theorem LcG.keep (L : LcG Y σ ρ1 H1 Hh ρi τ) : Keep (cut H1 (Ex_ Y ρ1 σ)) (cut Hh (Ex_ Y ρi τ)) :=
  L.frm.cut (fun a z => .inr z) fun a z => z.elim (fun q => .inl (.inl q)) fun q => .inl (.inr (L.sub a q))
theorem LcG.step (L : LcG Y σ ρ1 H1 Hh ρi τ) (Q : PostS Y ρi ρ3 τ τ2 Hh H4) (hq : ∀ a, OwnAt ρ3 τ2 a → OwnAt ρi τ a) : LcG Y σ ρ1 H1 H4 ρ3 τ2 :=
  ⟨Q.rep, L.frm.trans Q.frm (fun _ h => h) fun a z => .inl (L.sub a z), fun a z => L.sub a (hq a z), L.par.trans Q.par⟩
theorem LcG.wipe {vs : List Nat} (L : LcG Y σ ρ1 H1 Hh ρi τ) (no : noOwn ρi vs = true) : LcG Y σ ρ1 H1 Hh (wipeE ρi vs) (L2.wipe τ vs) :=
  L.step (.wipe L.rep no) fun a z => (own_wipe no).mp z
theorem LcG.done {vs : List Nat} (L : LcG Y σ ρ1 H1 Hh ρi τ) (R1 : RepE Y ρ1 σ H1) (n1 : noOwn ρ1 vs = true) (ne : noOwn ρi vs = true) (hσ : L2.wipe τ vs = L2.wipe σ vs) : Post Y ρ1 (backE ρ1 ρi vs) σ H1 Hh :=
  ⟨RepE.back (Y := Y) (Y' := Y) rfl R1 L.rep n1 ne hσ L.keep, L.frm, fun a z => L.sub a ((own_back n1 ne hσ).mp z), lent_back n1 L.par⟩
theorem seek_cons {vs : List Nat} {f : D → M (Option D)} {stop : D → Bool} {x : D} {xs ys : List D} {ρ ρ' : Env} (h : seek vs f stop (x :: xs) ρ = .ok ys ρ') :
    ∃ y ρ3, f x ρ = .ok y ρ3 ∧ noOwn ρ3 vs = true ∧ ((∃ d, y = some d ∧ stop d = true ∧ ys = [d] ∧ ρ' = ρ3) ∨ (∃ d zs, y = some d ∧ stop d = false ∧ seek vs f stop xs (wipeE ρ3 vs) = .ok zs ρ' ∧ ys = d :: zs) ∨ (y = none ∧ seek vs f stop xs (wipeE ρ3 vs) = .ok ys ρ')) := by
  unfold seek at h
  obtain ⟨y, ρ3, e1, e2⟩ := bnd_ok h
  split at e2
  · rename_i h1
    refine ⟨y, ρ3, e1, h1, ?_⟩
    cases y with
    | none => exact .inr (.inr ⟨rfl, e2⟩)
    | some d =>
      simp only at e2
      cases hs : stop d with
      | true =>
        rw [hs, if_pos rfl] at e2
        cases e2
        exact .inl ⟨d, rfl, hs, rfl, rfl⟩
      | false =>
        rw [hs, if_neg (by simp)] at e2
        obtain ⟨zs, ρ4, e3, e4⟩ := bnd_ok e2
        cases e4
        exact .inr (.inl ⟨d, zs, rfl, hs, e3, rfl⟩)
  · cases e2
/-- what is asked of the parts -/
structure Gok (g : Gn) (A : Around) (Z : Zc) (Φ : Fns) (P : Pars) (tgt : Tg) (ts : Exs) (t : Ex) (kq : R → M (Option D)) : Prop where
  over : A.over (.compLoop (.GeneratorExp g.elt [⟨g.tg, g.iter, g.ifs, 0⟩] g.scope g.gpos) 0 (.ref g.it) .none g.Xg.env) [] = g.Xg.A
  calm : g.Xg.calm = true
  co : g.Xg.env.scope.isCoroutine = false
  T : Turn g.Xg.prog g.Xg.w g.Xg.K g.tg g.J g.fp g.it g.tn
  G : Gives g.Y.K (Ex_ g.Y g.ρ1 g.σ) g.H1 g.J g.xs
  o : Of Z g.Y
  ht : TbOk Z.tb
  pg : eG g.Xg Z g.tg tgt
  pt : eTs g.Xg Z g.ifs (evC Φ P ts)
  pe : eM g.Xg Z g.elt (ev Φ P t)
  f : ∀ d, g.f d = bnd (setTg tgt (d, false)) fun _ => bnd (evC Φ P ts) fun k => if k = true then bnd (ev Φ P t) kq else ret none
  kq : ∀ r ρ y ρ', kq r ρ = .ok y ρ' → y = some r.1 ∧ ρ' = ρ ∧ (isBool r.1 || isInt r.1) = true
  tn : ∀ i ∈ tgN tgt, i ∈ g.vs
  ne : noOwn g.ρe g.vs = true
  ex : g.Xg.ex = g.fp
  pn : g.Xg.pn = [(g.ga, g.go)]
  gaf : g.ga ∉ g.fp
  xe : ∀ v s, ¬ g.Xg.xe v s
theorem isV_of {K : PySem.W.Frag} {H : Hp} {v : V} {u : Value} {d : D} (hb : (isBool d || isInt d) = true) (r : Rp K H v d) (rv : RelV v u) : IsV d u := by
  cases d with
  | bool b => cases r; exact rv
  | int i => cases r; exact rv
  | _ => simp [isBool, isInt] at hb
theorem pins_fp {g : Gn} {A : Around} {Z : Zc} {Φ : Fns} {P : Pars} {tgt : Tg} {ts : Exs} {t : Ex} {kq : R → M (Option D)} (K : Gok g A Z Φ P tgt ts t kq) {pins : List (Addr × Obj)} {σ' : L2.St} {H : Hp} {s : Shared} (hp : pinsOf g.So pins) (hS : ∀ S, g.So = some S → S ∉ g.fp ∧ g.Xg.s_0.heap.objs.size ≤ S ∧ S ≠ g.ga)
    (I : Inv g.Xg pins σ' H s) (hn : ∀ b ∈ g.fp, H b = none) : ∀ b ∈ g.fp, FpOk g.Xg pins H b := fun b hb => by
  have hbx : b ∈ g.Xg.ex := by rw [K.ex]; exact hb
  refine ⟨hn b hb, (I.ok.exf b hbx).1, I.ok.exfs b hbx, .inl hbx, fun x c e => (I.ok.exf b hbx).2 x c e, fun q hq => ?_⟩
  rw [K.pn] at hq
  rcases (List.mem_append.mp hq) with hq | hq
  · rw [(List.mem_singleton.mp hq)]
    exact fun z => K.gaf (by rw [show g.ga = b from z]; exact hb)
  unfold pinsOf at hp
  cases hSo : g.So with
  | none => rw [hSo] at hp; simp only at hp; rw [hp] at hq; cases hq
  | some S =>
    rw [hSo] at hp
    obtain ⟨acc, c, rfl⟩ := hp
    rw [List.mem_singleton.mp hq]
    exact fun z => (hS S hSo).1 (by rw [show S = b from z]; exact hb)
theorem pot_of {g : Gn} {pins : List (Addr × Obj)} {σ' σ'' : L2.St} {H H' : Hp} {s s' : Shared} (hp : pinsOf g.So pins) (I : Inv g.Xg pins σ' H s) (I' : Inv g.Xg pins σ'' H' s') : g.potSame s s' := fun S hS => by
  unfold pinsOf at hp
  rw [hS] at hp
  obtain ⟨acc, c, rfl⟩ := hp
  have h1 := (I.pin (S, potO acc c) (List.mem_append_right _ List.mem_cons_self)).1
  have h2 := (I'.pin (S, potO acc c) (List.mem_append_right _ List.mem_cons_self)).1
  exact h2.trans h1.symm
theorem seg_turns {g : Gn} {A : Around} {Z : Zc} {Φ : Fns} {P : Pars} {tgt : Tg} {ts : Exs} {t : Ex} {kq : R → M (Option D)} (K : Gok g A Z Φ P tgt ts t kq) :
    ∀ (k i : Nat) (s₀ s : Shared) (ys : List D), g.xs.length - i = k → g.Mid i ys s → g.potSame s₀ s → Seg (model g.Xg.prog g.Xg.w) A g.R g.P ys.length s₀ g.code ((model g.Xg.prog g.Xg.w).den g.code) [] s := by
  intro k
  induction k with
  | zero =>
    intro i s₀ s ys hk ⟨H, ρi, pins, hp, I, st, hn, hS, L, hi, hrun, hsuf⟩ hpot
    have ei : i = g.xs.length := by omega
    subst ei
    rw [List.drop_length] at hrun
    have ee : ys = [] ∧ ρi = g.ρe := by cases hrun; exact ⟨rfl, rfl⟩
    obtain ⟨rfl, rfl⟩ := ee
    have G1 := K.G H _ L.keep fun a z => L.rep.exTr z
    show Seg _ A _ _ _ s₀ _ ((compTurn (.GeneratorExp g.elt [⟨g.tg, g.iter, g.ifs, 0⟩] g.scope g.gpos) 0 (.ref g.it) .none g.Xg.env).onRaise (leaving g.Xg.env)) [] s
    rw [(compTurn_gen), Sem.onRaise_eq_wrap]
    refine seg_bind_wrap (wpAny_standAt (seg_bind_wrap ?_))
    show wpAny _ (A.over (.compLoop (.GeneratorExp g.elt [⟨g.tg, g.iter, g.ifs, 0⟩] g.scope g.gpos) 0 (.ref g.it) .none g.Xg.env) []) _ _ _ s
    rw [K.over]
    refine wpAny_mono (K.T.done g.Xg rfl rfl rfl K.calm g.xs.length pins s _ H (fun _ _ => False) I (pins_fp K hp hS I hn) st G1.2.1) (fun r s1 ⟨hr, I1⟩ => ?_) fun _ _ z => z.elim
    subst hr
    exact seg_end (.ok .next) ⟨rfl, rfl, ⟨H, _, pins, hp, I1, wipe_wipe g.σ g.vs, L, K.ne⟩, fun S hS' => (pot_of hp I I1 S hS').trans (hpot S hS')⟩
  | succ k ih =>
    intro i s₀ s ys hk ⟨H, ρi, pins, hp, I, st, hn, hS, L, hi, hrun, hsuf⟩ hpot
    have hlt : i < g.xs.length := by omega
    obtain ⟨g1, g2, g3⟩ := K.G H _ L.keep fun a z => L.rep.exTr z
    show Seg _ A _ _ _ s₀ _ ((compTurn (.GeneratorExp g.elt [⟨g.tg, g.iter, g.ifs, 0⟩] g.scope g.gpos) 0 (.ref g.it) .none g.Xg.env).onRaise (leaving g.Xg.env)) [] s
    rw [(compTurn_gen), Sem.onRaise_eq_wrap]
    refine seg_bind_wrap (wpAny_standAt (seg_bind_wrap ?_))
    show wpAny _ (A.over (.compLoop (.GeneratorExp g.elt [⟨g.tg, g.iter, g.ifs, 0⟩] g.scope g.gpos) 0 (.ref g.it) .none g.Xg.env) []) _ _ _ s
    rw [K.over]
    refine wpAny_mono (K.T.item g.Xg rfl rfl rfl K.calm i pins s _ H (fun _ _ => False) I (pins_fp K hp hS I hn) st (g1 i hlt)) (fun r s1 ⟨u, hr, h6⟩ => ?_) fun _ _ z => z.elim
    subst hr
    refine seg_bind_wrap ?_
    show wpAny _ (A.over (.compLoop (.GeneratorExp g.elt [⟨g.tg, g.iter, g.ifs, 0⟩] g.scope g.gpos) 0 (.ref g.it) .none g.Xg.env) []) _ _ _ s1
    rw [K.over]
    refine wpAny_mono h6 (fun _ s7 ⟨x, H7, I7, r7, y7, st7, n7⟩ => ?_) fun _ _ z => z.elim
    obtain ⟨d, hd, rd, hH⟩ := g3 i x H7 hlt y7
    have hdr : g.xs.drop i = d :: g.xs.drop (i + 1) := by
      rw [List.drop_eq_getElem_cons hlt]; rw [List.getElem?_eq_getElem hlt] at hd; rw [Option.some.inj hd]
    rw [hdr] at hrun
    obtain ⟨yo, ρt, f1, no, f2⟩ := seek_cons hrun
    rw [K.f] at f1
    obtain ⟨_, ρa, s1', s2'⟩ := bnd_ok f1
    obtain ⟨b, ρb, s3', s4'⟩ := bnd_ok s2'
    have htY : TbOk g.Y.tb := by rw [K.o.2]; exact K.ht
    have Py : Post g.Y ρi ρi (L2.wipe g.σ g.vs) H H7 := yield_post (K := g.Y.K) (x := x) (d := d) htY L.rep hH
    have fpo := pins_fp K hp hS I7 n7
    have I7' := I7.pinned fpo (K.T.obj _ _ st7)
    -- the target
    refine seg_bind_wrap ?_
    show wpAny _ (A.over (.compLoop (.GeneratorExp g.elt [⟨g.tg, g.iter, g.ifs, 0⟩] g.scope g.gpos) 0 (.ref g.it) .none g.Xg.env) []) _ _ _ s7
    rw [K.over]
    refine wpAny_mono ((K.pg g.Y K.o).run _ s7 _ H7 x u (fun σ2 H2 => H2 = H7 ∧ PostS g.Y ρi ρa (L2.wipe g.σ g.vs) σ2 H7 H7 ∧ L2.wipe σ2 g.vs = L2.wipe g.σ g.vs) I7' r7 ⟨ρi, d, ρa, Py.rep, rd, s1', fun σ2 Pg hsame hlen => ⟨rfl, Pg, (wipe_same hlen fun j hj => hsame j fun z => hj (K.tn j z)).trans (wipe_wipe g.σ g.vs)⟩⟩) (fun _ s8 h8 => ?_) fun _ _ z => ?_
    · obtain ⟨σ8, H8, I8, e8, Pg, hw⟩ := h8
      subst e8
      -- the tests
      refine seg_bind_wrap ?_
      show wpAny _ (A.over (.compLoop (.GeneratorExp g.elt [⟨g.tg, g.iter, g.ifs, 0⟩] g.scope g.gpos) 0 (.ref g.it) .none g.Xg.env) []) _ _ _ s8
      rw [K.over]
      have L8 := (L.step Py.s Py.sub).step Pg Pg.strong
      refine wpAny_mono ((K.pt g.Y K.o).run _ s8 σ8 H8 (fun b' H2 => b' = b ∧ Post g.Y ρa ρb σ8 H8 H2) I8 (tT_mk Pg.rep s3' fun H2 P2 => ⟨rfl, P2⟩)) (fun b' s9 h9 => ?_) fun _ _ z => (K.xe _ _ z).elim
      obtain ⟨H9, I9, e9, P9⟩ := h9
      subst e9
      have L9 := L8.step P9.s P9.sub
      -- the turn's end: the state ahead of the next one
      have fin : ∀ {s' : Shared} {H' : Hp} {ρt : Env} {zs : List Ty.D}, Inv g.Xg (pins ++ pinsAt g.fp s7.heap) σ8 H' s' → LcG g.Y g.σ g.ρ1 g.H1 H' ρt σ8 → noOwn ρt g.vs = true → seek g.vs g.f g.stop (g.xs.drop (i + 1)) (wipeE ρt g.vs) = .ok zs g.ρe → g.Suf zs → g.Mid (i + 1) zs s' ∧ g.potSame s s' := by
        intro s' H' ρt zs I' L' no' hr' hsf
        have pin' : ∀ b ∈ g.fp, ∀ o, s7.heap.get? b = some o → s'.heap.get? b = some o ∧ H' b = none := fun b hb o e =>
          let z := (I'.pin (b, o) (List.mem_append_right _ (List.mem_append_right _ (mem_pinsAt hb e))))
          ⟨z.1, z.2.1⟩
        have hl : (L2.wipe g.σ g.vs).length = σ8.length := by rw [← hw, wipe_length]
        have I2 : Inv g.Xg pins (L2.wipe g.σ g.vs) H' s' := I'.unpinned.weak hl (fun j v e => by rw [← hw] at e; exact (wipe_some e).1)
        refine ⟨⟨H', wipeE ρt g.vs, pins, hp, I2, K.T.keep _ _ _ st7 fun b hb o e => (pin' b hb o e).1, fun b hb => ?_, hS, hw ▸ L'.wipe no', hlt, hr', hsf⟩, pot_of hp I I2⟩
        obtain ⟨o, e, _⟩ := K.T.obj _ _ st7 b hb
        exact (pin' b hb o e).2
      cases b' with
      | false =>
        rw [if_neg (by simp)] at s4'
        cases s4'
        have f3 : seek g.vs g.f g.stop (g.xs.drop (i + 1)) (wipeE ρt g.vs) = .ok ys g.ρe := by
          rcases f2 with ⟨_, h, _⟩ | ⟨_, _, h, _⟩ | ⟨_, h⟩
          · cases h
          · cases h
          · exact h
        obtain ⟨m1, m2⟩ := fin I9 L9 no f3 hsuf
        simp only [if_false, Bool.false_eq_true]
        exact seg_again rfl (ih (i + 1) s₀ s9 ys (by omega) m1 fun S hS' => (m2 S hS').trans (hpot S hS'))
      | true =>
        rw [if_pos rfl] at s4'
        obtain ⟨r, ρc, s5', s6'⟩ := bnd_ok s4'
        obtain ⟨rfl, rfl, hbi⟩ := K.kq _ _ _ _ s6'
        simp only [if_true]
        have hy : ∀ v, yieldOut g.Xg.env v = yieldValue v := fun v => by simp only [yieldOut, K.co, Bool.false_eq_true, if_false]
        simp only [hy]
        rw [(Sem.bind_eq_wrap'), Sem.bind_eq_wrap', Sem.wrap_wrap, Sem.wrap_wrap]
        refine seg_wrap ?_
        show wpAny _ (A.over (.compLoop (.GeneratorExp g.elt [⟨g.tg, g.iter, g.ifs, 0⟩] g.scope g.gpos) 0 (.ref g.it) .none g.Xg.env) []) _ _ _ s9
        rw [K.over]
        refine wpAny_mono ((K.pe g.Y K.o).run _ s9 σ8 H9 (fun v H2 => Post g.Y ρb ρt σ8 H9 H2 ∧ Rp g.Y.K (cut H2 (Ex_ g.Y ρt σ8)) v r.1) I9 (tM_mk P9.rep s5' fun v H2 P2 r2 => ⟨P2, r2.rp⟩)) (fun u2 s10 h10 => ?_) fun _ _ z => (K.xe _ _ z).elim
        obtain ⟨v2, H10, I10, rv2, P10, rp10⟩ := h10
        have L10 := L9.step P10.s P10.sub
        have hV : IsV r.1 u2 := isV_of hbi rp10 rv2
        rcases f2 with ⟨d2, hd2, hst, rfl, he⟩ | ⟨d2, zs, hd2, hst, hsk, rfl⟩ | ⟨h, _⟩
        · cases hd2
          have I10' : Inv g.Xg pins σ8 H10 s10 := I10.unpinned
          refine seg_at (seg_yield rfl rfl rfl ⟨r.1, [], rfl, hsuf, hV, fun S hS' => (pot_of hp I I10' S hS').trans (hpot S hS'), fun _ => ⟨H10, σ8, pins, hp, I10', hw, he ▸ L10, K.ne⟩, fun z => ?_⟩)
          rw [hst] at z; cases z
        · cases hd2
          obtain ⟨m1, m2⟩ := fin I10 L10 no hsk (hsuf.tail hst)
          refine seg_at (seg_yield rfl rfl rfl ⟨r.1, zs, rfl, hsuf, hV, fun S hS' => (m2 S hS').trans (hpot S hS'), fun z => ?_, fun _ => ⟨i + 1, m1, fun s'' hm => ?_⟩⟩)
          · rw [hst] at z; cases z
          · exact seg_again rfl (ih (i + 1) s'' s'' zs (by omega) hm fun _ _ => rfl)
        · cases h
    · exact (K.xe _ _ z).elim
def Gn.start (g : Gn) : Code := .compStart (.GeneratorExp g.elt [⟨g.tg, g.iter, g.ifs, 0⟩] g.scope g.gpos) 0 (.ref g.it) .none g.Xg.env
theorem seg_begin {g : Gn} {A : Around} {Z : Zc} {Φ : Fns} {P : Pars} {tgt : Tg} {ts : Exs} {t : Ex} {kq : R → M (Option D)} (K : Gok g A Z Φ P tgt ts t kq) {s : Shared} {ys : List D} (h : g.Mid 0 ys s) :
    Seg (model g.Xg.prog g.Xg.w) A g.R g.P ys.length s g.start ((model g.Xg.prog g.Xg.w).den g.start) [] s := by
  have loop := seg_turns K g.xs.length 0 s s ys (Nat.sub_zero _) h fun _ _ => rfl
  have hst : g.tn 0 s.heap := let ⟨_, _, _, _, _, st, _⟩ := h; st
  show Seg _ A _ _ _ s _ ((compStart (.GeneratorExp g.elt [⟨g.tg, g.iter, g.ifs, 0⟩] g.scope g.gpos) 0 (.ref g.it) .none g.Xg.env).onRaise (leaving g.Xg.env)) [] s
  unfold compStart
  rw [Sem.onRaise_eq_wrap]
  show Seg _ A _ _ _ s _ ((ask >>= _).wrap _ _ _ _) [] s
  refine (seg_bind_wrap (wpAny_askSetting ?_))
  split
  · exact seg_again rfl loop
  · refine seg_bind_wrap (wpAny_rule ?_)
    show Seg _ A _ _ _ s _ ((standAt g.iter.pos >>= _).wrap _ _ _ _) [] s
    exact seg_bind_wrap (wpAny_standAt (seg_bind_wrap (K.T.self _ 0 s _ _ hst (seg_again rfl loop))))
/-- the generator's place in the table of generators changes -/
theorem Gn.Mid.setGen {g : Gn} {i n : Nat} {ys : List D} {s : Shared} {x : GenState} (h : g.Mid i ys s) (hx : x.bare = true) : g.Mid i ys (s.setGen n x) := by
  obtain ⟨H, ρi, pins, hp, I, r⟩ := h
  exact ⟨H, ρi, pins, hp, ⟨I.ok, I.os, allBare_setGen I.bare hx, I.base, I.loc, I.cell, I.free, I.freeC, I.pin, I.hok, I.len⟩, r⟩
theorem Gn.End.setGen {g : Gn} {n : Nat} {s : Shared} {x : GenState} (h : g.End s) (hx : x.bare = true) : g.End (s.setGen n x) := by
  obtain ⟨H, τ, pins, hp, I, r⟩ := h
  exact ⟨H, τ, pins, hp, ⟨I.ok, I.os, allBare_setGen I.bare hx, I.base, I.loc, I.cell, I.free, I.freeC, I.pin, I.hok, I.len⟩, r⟩
theorem Gn.End.kept {g : Gn} {s : Shared} {h' : Heap} (h : g.End s) (k : ∀ b o, s.heap.get? b = some o → h'.get? b = some o) : g.End { s with heap := h' } := by
  obtain ⟨H, τ, pins, hp, I, r⟩ := h
  exact ⟨H, τ, pins, hp, I.kept (t' := s.toks) k, r⟩
def Gn.PotAt (g : Gn) (p : Pot) (s : Shared) : Prop := match p with
  | none => g.So = none
  | some (S, acc, c) => g.So = some S ∧ s.heap.get? S = some (potO acc c)
/-- what the consumer holds: its own list, and what will come -/
def Gn.St (g : Gn) (A : Around) (n : Nat) (p : Pot) (ys : List D) (s : Shared) : Prop :=
  g.PotAt p s ∧
  ∃ i gs, g.Mid i ys s ∧ s.gens[n]? = some gs ∧ ∀ s'', g.Mid i ys s'' → gs.Goes (model g.Xg.prog g.Xg.w) A.in1 g.R g.P ys.length (.send .none) s''
def Gn.Fn (g : Gn) (p : Pot) (s : Shared) : Prop :=
  g.PotAt p s ∧ g.End s
theorem Gn.Mid.gen {g : Gn} {A : Around} {Z : Zc} {Φ : Fns} {P : Pars} {tgt : Tg} {ts : Exs} {t : Ex} {kq : Ty.R → M (Option D)} (K : Gok g A Z Φ P tgt ts t kq) {i : Nat} {ys : List D} {s : Shared} (h : g.Mid i ys s) : s.heap.get? g.ga = some g.go ∧ s.heap.NoLimit := by
  obtain ⟨H, ρi, pins, hp, I, r⟩ := h
  exact ⟨(I.pin (g.ga, g.go) (List.mem_append_left _ (by rw [K.pn]; exact List.mem_cons_self))).1, I.nolimit⟩
end
end Ty
set_option autoImplicit false
set_option maxHeartbeats 200000
/-! T8c: a generator expression as a source. -/
namespace Ty
open PySem PySem.Spec PyProof.Rows L2 GenW
section
variable {g : Gn} {A : Around} {Z : Zc} {Φ : Fns} {P : Pars} {tgt : Tg} {ts : Exs} {t : Ex} {kq : R → M (Option D)} {n : Nat}
theorem pot_pass {p : Pot} {s s' : Shared} (h : g.PotAt p s) (q : g.potSame s s') : g.PotAt p s' := by
  cases p with
  | none => exact h
  | some x =>
    obtain ⟨S, acc, c⟩ := x
    exact ⟨h.1, (q S h.1).trans h.2⟩
/-- the consumer's own list changes -/
theorem inv_pot {X : Cx} {σ : L2.St} {H : Hp} {s : Shared} {S : Addr} {acc acc' : Array Value} {c c' : Nat} {h' : Heap} {tk : Nat} (I : Inv X [(S, potO acc c)] σ H s) (hs : X.s_0.heap.objs.size ≤ S) (hp : ∀ q ∈ X.pn, q.1 ≠ S) (sb : Heap.SameBut S s.heap h') (hg : h'.get? S = some (potO acc' c')) :
    Inv X [(S, potO acc' c')] σ H { s with heap := h', toks := tk } := by
  obtain ⟨e1, e2, e3, e4, e5⟩ := I.pin (S, potO acc c) (List.mem_append_right _ List.mem_cons_self)
  have I0 : Inv X [] σ H s := I.pins_of fun q hq => by cases hq
  have nt : ∀ b u, H b = some u → b ≠ S := fun b u q z => by rw [z] at q; rw [e2] at q; cases q
  have ks : ∀ b o, b ≠ S → s.heap.get? b = some o → h'.get? b = some o := fun b o n e => (sb.2 b n).trans e
  have J : Inv X [] σ H { s with heap := h', toks := tk } := by
    refine I0.step (g' := s.gens) (t' := tk) (d' := s.drawn) (ch := [S]) (fun b hb => ?_) (fun b ob _ _ hc q _ => ks b ob (fun z => hc (by simp [z])) q) (fun b ob _ _ hc q _ => ⟨ob.slots, ks b ob (fun z => hc (by simp [z])) q⟩) (fun _ _ _ _ n => n)
      (fun b ob hc q => ⟨ob, ks b ob (fun z => hc (by simp [z])) q⟩) (fun _ _ q => q) (fun _ _ _ q => q) (fun b ps q => ⟨#[], by rw [q]; simp⟩) (fun m hm => ?_) (fun b u q => ?_) I.bare
    · rw [(List.mem_singleton.mp hb)]
      refine ⟨.inr hs, e3, fun x cc ec z => ?_, fun q hq => hp q (by simpa using hq)⟩
      obtain ⟨w, o, ho, hd⟩ := I.cell x cc ec
      rw [z, e1] at ho
      cases ho
      exact e5 w hd
    · obtain ⟨ob, es, ep, ho, r⟩ := (hm)
      exact ⟨ob, es, ep, ks _ ob (Ne.symm e3) ho, r⟩
    · refine (I0.hok b u q).stay (fun cc v hc y => ks cc v ?_ y) (fun _ y => y) fun _ _ y => y
      rcases hc with y | y
      · rw [y]; exact nt b u q
      · exact nt cc _ y
  refine J.pins_of fun q hq => ?_
  rw [List.mem_singleton.mp hq]
  exact ⟨hg, e2, e3, e4, fun v z => by cases z⟩
theorem mid_put (K : Gok g A Z Φ P tgt ts t kq) {S : Addr} {acc acc' : Array Value} {c c' i : Nat} {ys : List D} {s : Shared} {h' : Heap} {tk : Nat} (hSo : g.So = some S) (hat : s.heap.get? S = some (potO acc c)) (m : g.Mid i ys s) (sb : Heap.SameBut S s.heap h') (hg : h'.get? S = some (potO acc' c')) :
    g.Mid i ys { s with heap := h', toks := tk } := by
  obtain ⟨H, ρi, pins, hp, I, st, hn, hS, r⟩ := m
  obtain ⟨q1, q2, q3⟩ := hS S hSo
  unfold pinsOf at hp
  rw [hSo] at hp
  obtain ⟨acc0, c0, rfl⟩ := hp
  refine ⟨H, ρi, [(S, potO acc' c')], by rw [hSo]; exact ⟨acc', c', rfl⟩, inv_pot I q2 (fun q hq => ?_) sb hg, K.T.keep _ _ _ st fun b hb o e => (sb.2 b fun z => q1 (by rw [← z]; exact hb)).trans e, hn, hS, r⟩
  rw [K.pn] at hq
  rw [List.mem_singleton.mp hq]
  exact Ne.symm q3
theorem gen_src (K : Gok g A.in1 Z Φ P tgt ts t kq) (hgo : ∀ h : Heap, h.get? g.ga = some g.go → h.IsGen g.ga n) (hh : A.handled = none) (hd : A.depth < recursionLimit) :
    Src g.Xg.prog g.Xg.w A g.ga g.stop (g.St A n) g.Fn where
  item := fun p d ys s Q E ⟨hp, i, gs, m, hgs, go⟩ q => by
    obtain ⟨k1, k2⟩ := m.gen K
    have hlt : n < s.gens.size := (Array.getElem?_eq_some_iff.mp hgs).1
    have hsf : g.Suf (d :: ys) := let ⟨_, _, _, _, _, _, _, _, _, _, _, z⟩ := m; z
    refine wpAny_gsz (n := n + 1) hlt (wpAny_pyNext_genexpQ (P := fun j s₀ s => j = 0 ∧ g.End s ∧ g.potSame s₀ s) (Y := g.P) (n := ys.length + 1) hh k2 hd (hgo _ k1) hgs (go _ (m.setGen rfl)) (fun v s1 gs' hb hv => ?_) fun s1 hz h' hk => ?_)
    · intro hsz
      have hsz1 : n < s1.gens.size := by
        have z : (s1.setGen n gs').gens.size = s1.gens.size := setGen_size _ _ _
        have hsz' : n + 1 ≤ (s1.setGen n gs').gens.size := hsz
        omega
      obtain ⟨d', zs, e1, e2, hV, pot, h1, h2⟩ := hv
      have e3 : ys.length + 1 - 1 = zs.length := e1
      have e4 := hsf.inj e2 (by simp only [List.length_cons]; omega)
      cases e4
      have pot' : g.potSame s (s1.setGen n gs') := pot
      refine q v _ hV (fun hs => ⟨pot_pass hp pot', (h1 hs).setGen hb⟩) fun hs => ?_
      obtain ⟨j, m1, kap⟩ := h2 hs
      exact ⟨pot_pass hp pot', j, gs', m1.setGen hb, setGen_at hsz1, fun s'' hm => kap s'' hm⟩
    · exact absurd hz.1 (Nat.succ_ne_zero _)
  done := fun p s Q E ⟨hp, i, gs, m, hgs, go⟩ q => by
    obtain ⟨k1, k2⟩ := m.gen K
    refine wpAny_pyNext_genexpQ (P := fun j s₀ s => j = 0 ∧ g.End s ∧ g.potSame s₀ s) (Y := g.P) (n := 0) hh k2 hd (hgo _ k1) hgs (go _ (m.setGen rfl)) (fun v s1 gs' hb hv => ?_) fun s1 hz h' hk => ?_
    · obtain ⟨d', zs, e1, e2, hV, pot, h1, h2⟩ := hv
      obtain ⟨pre, e, _⟩ := e2
      cases hs : g.stop d' with
      | true =>
        have hsf : g.Suf [] := let ⟨_, _, _, _, _, _, _, _, _, _, _, z⟩ := m; z
        obtain ⟨pre2, f1, f2⟩ := hsf
        have hz : zs = [] := List.eq_nil_of_length_eq_zero (show zs.length = 0 from e1.symm)
        subst hz
        have hm : d' ∈ pre2 := by
          rw [e, List.append_nil] at f1
          rw [← f1]; simp
        rw [f2 d' hm] at hs; cases hs
      | false =>
        obtain ⟨j, m1, kap⟩ := h2 hs
        exact (kap _ m1).elim
    · obtain ⟨_, he, hpot⟩ := hz
      refine q _ ⟨?_, (he.setGen (n := n) (x := .finished) rfl).kept (s := s1.setGen n .finished) hk⟩
      have hp2 : g.PotAt p s1 := pot_pass hp hpot
      cases p with
      | none => exact hp2
      | some x =>
        obtain ⟨S, acc, c⟩ := x
        exact ⟨hp2.1, hk _ _ hp2.2⟩
  pot := fun S acc c ys s h => h.1.2
  put := fun S acc c acc' c' ys s h' tk ⟨hp, i, gs, m, hgs, go⟩ _ sb hg => by
    exact ⟨⟨hp.1, hg⟩, i, gs, mid_put K hp.1 hp.2 m sb hg, hgs, go⟩
end
end Ty
set_option autoImplicit false
set_option maxHeartbeats 200000
/-! T8d: a generator is made. -/
namespace Ty
open PySem PySem.Spec PyProof.Rows L2 GenW
section
variable {X : Cx}
variable {pins : List (Addr × Obj)} {σ : L2.St} {H : Hp} {s : Shared}
theorem gen_start {scope : Scope} {own : List (Str × Nat)} {fp : List Addr} {A' : Around} {genv : PySem.Env} {code : Value} {h' : Heap} {m : Str → Option Value} {go : Obj} {gs : GenState} {tk : Nat} {fr : Obj}
    (I : Inv X pins σ H s) (ok : BlkOk X.N X.env.scope scope own) (hN : X.N.Nodup) (hnc : ∀ y ∈ scope.names, y.2 ≠ .cell) (hfp : ∀ b ∈ fp, FpOk X pins H b ∧ b < s.heap.objs.size)
    (hAh : A'.handled = none) (hAf : A'.frames = some (genv :: X.stack)) (hg : genv = genEnv scope (cloFrom X.env.cells scope.names []) s.heap.objs.size code builtinsNs X.env)
    (hn : h'.Ns s.heap.objs.size m) (hs : Heap.SameBut s.heap.objs.size (s.heap.push fr) h') (hb : gs.bare = true) (hd : ∀ v, go.data ≠ .cell v) (hz : go.isFreed = false) :
    Inv (Cxg X s H A' genv fp h'.objs.size go) [] (L2.wipe σ (own.map (·.2))) H { s with gens := s.gens.push gs, toks := tk, heap := h'.push go } := by
  have hfree : ∀ y ∈ scope.names, y.2 = .free → ∃ c, X.env.cells.lookup y.1 = some c := fun y hy e =>
    (ok.free y hy e).elim (fun k => I.ok.has _ (.inl k)) fun k => I.ok.has _ (.inr k)
  have hsz : h'.objs.size = s.heap.objs.size + 1 := by rw [hs.1, Heap.size_push]
  have kp : ∀ b o, s.heap.get? b = some o → (h'.push go).get? b = some o := fun b o e => Heap.get?_push_of_some _ (hs.extBut b o (Nat.ne_of_lt (Heap.lt_size e)) (Heap.get?_push_of_some _ e))
  have hL : genv.locals = s.heap.objs.size := by rw [hg]; rfl
  have hcl : genv.cells = cloFrom X.env.cells scope.names [] := by rw [hg]; rfl
  have hsc : genv.scope = scope := by rw [hg]; rfl
  have cm : ∀ {y c}, (y, c) ∈ cloFrom X.env.cells scope.names [] → (y, NameKind.free) ∈ scope.names ∧ X.env.cells.lookup y = some c ∧ c < s.heap.objs.size := fun {y c} hm => by
    rcases (cloFrom_mem hm) with hm | ⟨h1, rfl⟩
    · cases hm
    · obtain ⟨c, hc⟩ := (hfree _ h1 rfl)
      rw [hc]
      obtain ⟨w, z⟩ := (I.cell _ _ hc)
      exact ⟨h1, rfl, z.lt⟩
  have mem : ∀ {y c}, genv.cells.lookup y = some c → (y, NameKind.free) ∈ scope.names ∧ X.env.cells.lookup y = some c ∧ c < s.heap.objs.size := fun {y c} e => by
    rw [hcl] at e
    exact cm (PySem.mem_of_lookup e)
  have look : ∀ {y}, scope.names.lookup y = some .free → ∃ c, genv.cells.lookup y = some c ∧ X.env.cells.lookup y = some c := fun {y} hl => by
    have hy : (y, NameKind.free) ∈ scope.names := (PySem.mem_of_lookup hl)
    obtain ⟨c', e'⟩ := mem_lookup (cloFrom_has (cells := X.env.cells) (acc := []) hy)
    rw [← hcl] at e'
    exact ⟨c', e', (mem e').2.1⟩
  have okB : (Cxg X s H A' genv fp h'.objs.size go).Ok := by
    refine ⟨I.ok.mod, by show genv.scope.kind = _; rw [hsc]; exact ok.kind, by show genv.globals = _; rw [hg]; exact I.ok.glob, by show genv.builtins = _; rw [hg]; rfl, by show s.heap.objs.size ≤ genv.locals; rw [hL]; exact Nat.le_refl _,
      fun y z c e1 e2 => ?_, fun y hy => ?_, fun y c z e => ?_, fun _ => hAh, hAf, .inr ⟨rfl, by show genv.frame = some genv.locals; rw [hg]; rfl⟩, fun b hb => ⟨?_, fun y c e z => ?_⟩, I.bs, Nat.le_trans I.ok.bsz I.sz, fun b o e hb => ?_, fun b hb z => ?_, I.stack, I.stkFree⟩
    · exact I.ok.inj y z c (mem e1).2.1 (mem e2).2.1
    · show ∃ c, genv.cells.lookup y = some c
      rcases hy with hy | hy
      · have hy : genv.scope.names.lookup y = some .cell := hy
        rw [hsc] at hy
        exact absurd rfl (hnc _ (PySem.mem_of_lookup hy))
      · have hy : genv.scope.names.lookup y = some .free := hy
        rw [hsc] at hy
        obtain ⟨c, h1, _⟩ := look hy
        exact ⟨c, h1⟩
    · cases z
    · show b ≠ genv.locals
      rw [(hL)]; exact Nat.ne_of_lt (hfp b hb).2
    · exact (hfp b hb).1.2.2.2.2.1 y c (mem e).2.1 z
    · rcases ((hfp b hb).1.2.2.2.1) with z | z
      · exact I.ok.noex b o e z
      · exact (absurd (Nat.lt_of_lt_of_le (Heap.lt_size e) (Nat.le_trans I.ok.bsz z)) (Nat.lt_irrefl _))
    · rcases (List.mem_cons.mp (I.stkSub b z)) with z | z
      · exact (hfp b hb).1.2.1 z
      · exact (hfp b hb).1.2.2.1 z
  refine ⟨okB, rfl, I.bare.push hb, Un.kept kp, ⟨m, ?_, fun i y av e1 e2 e3 => ?_⟩, fun y c e => ?_, ?_, fun y c e => ?_, fun p hp => ?_, I.hok.kept kp, by rw [wipe_length]; exact I.len⟩
  · show Heap.Ns _ genv.locals _
    rw [hL]
    exact hn.push _
  · obtain ⟨e2, hne⟩ := (wipe_some e2)
    have e3 : Vis genv.scope y := e3
    rw [hsc] at e3
    have hfr : scope.names.lookup y = some .free := by
      have no : ∀ k', scope.names.lookup y = some k' → ¬ (k' = .local ∨ k' = .cell) := fun k' e hh => by
        rcases (ok.own _ (PySem.mem_of_lookup e) hh) with e' | e'
        · obtain ⟨p, hp, hpy⟩ := (List.mem_map.mp e')
          have e3 := ok.ix p hp
          have : p.1 = y := hpy
          rw [this] at e3
          exact (hne (List.mem_map.mpr ⟨p, hp, nodup_ix hN e3 e1⟩))
        · exact (e' (List.mem_of_getElem? e1))
      rcases e3 with e3 | e3 | e3
      · exact absurd (.inl rfl) (no _ e3)
      · exact absurd (.inr rfl) (no _ e3)
      · exact e3
    obtain ⟨m', hn', hl⟩ := I.loc
    have hfk := ok.free _ (PySem.mem_of_lookup hfr) rfl
    obtain ⟨w, r, q⟩ := hl i y av e1 e2 (hfk.elim (fun k => .inr (.inl k)) fun k => .inr (.inr k))
    obtain ⟨c, h1, h2⟩ := look hfr
    refine ⟨w, r, .inr ⟨.inr (show genv.scope.names.lookup y = some .free by rw [hsc]; exact hfr), c, h1, ?_⟩⟩
    rcases (q) with ⟨k, _⟩ | ⟨_, c', e', z⟩
    · have k : X.env.scope.names.lookup y = some .local := (k)
      rcases hfk with k' | k' <;> rw [show X.env.scope.names.lookup y = _ from k'] at k <;> cases k
    · rw [h2] at e'; cases e'
      exact z.keeps kp
  · obtain ⟨w, z⟩ := I.cell y c (mem e).2.1
    exact ⟨w, z.keeps kp⟩
  · show H genv.locals = none
    rw [(hL)]; exact I.hok.fresh (Nat.le_refl _)
  · exact I.freeC y c (mem e).2.1
  · have hp : p ∈ [(h'.objs.size, go)] ++ [] := hp
    rw [List.append_nil] at hp
    rw [List.mem_singleton.mp hp]
    refine ⟨Heap.get?_push_size _ hz, I.hok.fresh (by rw [hsz]; omega), ?_, fun hb => ?_, hd⟩
    · show h'.objs.size ≠ genv.locals
      rw [hL, hsz]; exact Nat.succ_ne_self _
    · obtain ⟨_, o, ho, _⟩ := I.stack.mem hb
      have z : h'.objs.size < s.heap.objs.size := Heap.lt_size ho
      rw [hsz] at z
      exact absurd z (Nat.not_lt_of_lt (Nat.lt_succ_self _))
end
end Ty
set_option autoImplicit false
set_option maxHeartbeats 200000
/-! T8e: a generator expression is evaluated: what stands behind it. -/
namespace Ty
open PySem PySem.Spec PyProof.Rows L2 GenW GxR
section
variable {X : Cx}
variable {pins : List (Addr × Obj)} {σ : L2.St} {H : Hp} {s : Shared}
theorem gen_make {c P : Addr} {elt iter tg : Expr} {ifs : List Expr} {gpos : Pos} {scope : Scope} {own : List (Str × Nat)} {wi : TI} {R : L2.It → Hp → Prop} {Q' : Value → Shared → Prop}
    (hdp : X.A.depth < recursionLimit) (TB : TabB X.base X.mg c P) (hcode : X.env.code = .ref c) (hco : scope.isCoroutine = false) (ok : BlkOk X.N X.env.scope scope own) (hN : X.N.Nodup) (hnc : ∀ y ∈ scope.names, y.2 ≠ .cell)
    (hdot : scope.names.lookup (".0" : Str) = some NameKind.local) (hi : PI X tg iter wi) (hs : ∀ v, genFold iter X.env v = pure v) (I : Inv X pins σ H s) (h : wi σ H fun J H1 => TabG H1 P ∧ R J H1)
    (hQ : ∀ (it : Addr) (fp : List Addr) (tn : Nat → Heap → Prop) (J : L2.It) (H1 H2 : Hp) (s3 s5 : Shared) (genv : PySem.Env) (ga : Addr) (go : Obj), R J H1 → Tabbed P H1 H2 → Inv X pins σ H2 s3 → Turn X.prog X.w X.K tg J fp it tn → (∀ b ∈ fp, FpOk X pins H2 b ∧ b < s3.heap.objs.size) →
      tn 0 s5.heap → (∀ A' : Around, A'.handled = none → A'.frames = some (genv :: X.stack) → Inv (Cxg X s3 H2 A' genv fp ga go) [] (L2.wipe σ (own.map (·.2))) H2 s5) → genv.scope = scope → ga = s3.heap.objs.size + 1 →
      s5.gens[s3.gens.size]? = some (.fresh (.compStart (.GeneratorExp elt [⟨tg, iter, ifs, 0⟩] scope gpos) 0 (.ref it) .none genv)) → (∀ h : Heap, h.get? ga = some go → h.IsGen ga s3.gens.size) → Q' (.ref ga) s5) :
    wpAny (model X.prog X.w) X.A (eval (.GeneratorExp elt [⟨tg, iter, ifs, 0⟩] scope gpos) X.env) Q' X.xe s := by
  have hfree : ∀ y ∈ scope.names, y.2 = .free → ∃ c, X.env.cells.lookup y.1 = some c := fun y hy e =>
    (ok.free y hy e).elim (fun k => I.ok.has _ (.inl k)) fun k => I.ok.has _ (.inr k)
  refine wpAny_GeneratorExp_make hco (closure_ok hfree) hnc hdot ok.kind hdp ?_ hs
  refine thn (hi.run pins s σ H _ I h) fun xv s1 h1 => thn h1 fun itv s2 h2 => ?_
  obtain ⟨it, fp, tn, J, H1, rfl, I1, T, st1, f1, ⟨ps, hP, ht⟩, q1⟩ := h2
  have hPs : s2.heap.get? P = some { cls := .none, data := .fields ps } := I1.hok P _ hP
  have cd : PySem.W.CodeHd s2.heap c P := TB.code.keeps fun b u e => I1.bk b u e
  have cont : ∀ (code : Value) (h3 : Heap) (tk : Nat) (ps' : Array Value), Heap.ExtBut P s2.heap h3 → s2.heap.objs.size ≤ h3.objs.size → h3.get? P = some { cls := .none, data := .fields ps' } → (∃ more, ps' = ps ++ more) → TriplesOk ps'.toList →
      wpAny (model X.prog X.w) X.A (builtinsFor X.env.globals X.env.builtins) (fun bi s₄ => ∀ h', h'.Ns s₄.heap.objs.size (fun y => if y = ".0" then some (.ref it) else none) → Heap.SameBut s₄.heap.objs.size (s₄.heap.push { cls := .type "frame", data := .dict #[] }) h' →
          Q' (.ref h'.objs.size) { s₄ with
            gens := s₄.gens.push (.fresh (.compStart (.GeneratorExp elt [⟨tg, iter, ifs, 0⟩] scope gpos) 0 (.ref it) .none (genEnv scope (cloFrom X.env.cells scope.names []) s₄.heap.objs.size code bi X.env))),
            toks := s₄.toks + 1 + 1 + 1,
            heap := h'.push { cls := .type "generator", data := .fields #[.int s₄.gens.size 0, .str "<genexpr>" (s₄.toks + 1), .str (X.env.qual ++ "<genexpr>") (s₄.toks + 1 + 1)] } }) X.xe { s2 with heap := h3, toks := tk } := by
    intro code; intro h3 tk ps' hx hsz hP3 hmore ht3
    obtain ⟨bm, ob, e1, e2, e3, e4, e5, e6, e7, e8⟩ := (TB.bm)
    obtain ⟨more, em⟩ := hmore
    refine wpAny_builtinsFor (m := X.mg) (by rw [I1.ok.glob]; exact (I1.mod.glob.keeps I1.bk).extBut hx TB.gP) e1 e2 (hx _ _ e4 (I1.bk _ _ e5)) e6 e7 e8 ?_
    intro h' hn' hs'
    have J2 := inv_tab (more := more) (h' := h3) (g' := s2.gens) (d' := s2.drawn) (t' := tk) I1 hP (fun b u hb e => hx b u hb e) (by rw [← em]; exact hP3) I1.bare
    have nP : ∀ b ∈ fp, b ≠ P := fun b hb z => by
      have q := (f1 b hb).1
      rw [z, hP] at q; cases q
    have f2 : ∀ b ∈ fp, FpOk X pins (upd H1 P (.tbl (ps ++ more))) b ∧ b < h3.objs.size := fun b hb => by
      obtain ⟨o, eo, _⟩ := T.obj _ _ st1 b hb
      exact ⟨⟨by rw [upd_ne (nP b hb)]; exact (f1 b hb).1, (f1 b hb).2⟩, Nat.lt_of_lt_of_le (Heap.lt_size eo) hsz⟩
    have hsz' : h'.objs.size = h3.objs.size + 1 := by rw [hs'.1, Heap.size_push]
    refine hQ it fp tn J H1 (upd H1 P (.tbl (ps ++ more))) _ _ _ _ _ q1 ⟨⟨ps ++ more, upd_same, by rw [← em]; exact ht3⟩, fun b hb => upd_ne hb⟩ J2 T f2 ?_ (fun A' hA hF => gen_start J2 ok hN hnc f2 hA hF rfl hn' hs' rfl (fun v z => by cases z) rfl) rfl hsz' (Array.getElem?_push_size ..) fun h e => ?_
    · exact T.keep _ _ _ st1 fun b hb o e => Heap.get?_push_of_some _ (hs'.extBut b o (Nat.ne_of_lt (f2 b hb).2) (Heap.get?_push_of_some _ (hx b o (nP b hb) e)))
    · exact ⟨_, _, _, e, rfl, rfl, rfl⟩
  refine ⟨I1.nolimit, ?_⟩
  cases hf : (codeAmong gpos ps.toList) with
  | none =>
    refine wpAny_genexprCodeX hcode (cd.code hPs ht) (cd.tab hPs) hf fun c' h' tk hx hge hlt hco' _ htab' _ => ?_
    obtain ⟨o1, vs, f1, tf, fl, tg, inF, tx, tt, op, _, _, _, _, _, _, _, _, _, htr, _⟩ := (hco')
    exact (cont _ h' tk _ hx (Nat.le_trans hge (Nat.le_of_lt hlt)) htab'.2 ⟨_, rfl⟩ htr)
  | some cv =>
    refine wpAny_genexprCode_hit hcode (cd.code hPs ht) hf ?_
    exact cont cv s2.heap s2.toks ps (Heap.ExtBut.refl _ _) (Nat.le_refl _) hPs ⟨#[], by simp⟩ ht
end
end Ty
set_option autoImplicit false
set_option maxHeartbeats 200000
/-! T8f: a generator expression, from its evaluation to its end. -/
namespace Ty
open PySem PySem.Spec PyProof.Rows L2 GenW GxR
/-- what a generator's frame runs in -/
abbrev gA (A : Around) (e : Expr) (it : Addr) (genv : PySem.Env) : Around := A.in1.in1.over (.compLoop e 0 (.ref it) .none genv) []
/-- what is asked of the def that makes generators: its code object cc, the table at P -/
structure Gcd (X : Cx) (Z : Zc) (cc P : Addr) : Prop where
  TB : TabB X.base X.mg cc P
  code : X.env.code = .ref cc
  dp : X.A.depth < recursionLimit
  hd : X.A.handled = none
  tab : ∀ H, Z.tb H → TabG H P
  grow : ∀ H H2, Z.tb H → Tabbed P H H2 → Z.tb H2
def genM (Φ : Fns) (Pp : Pars) (tgt : Tg) (ts : Exs) (t : Ex) (kq : R → M (Option D)) (d : D) : M (Option D) := bnd (setTg tgt (d, false)) fun _ => bnd (evC Φ Pp ts) fun k => if k = true then bnd (ev Φ Pp t) kq else ret none
section
variable {X : Cx} {pins : List (Addr × Obj)} {σ : L2.St} {H : Hp} {s : Shared} {Z : Zc} {Φ : Fns} {Pp : Pars} {tgt : Tg} {ts : Exs} {t : Ex} {kq : R → M (Option D)} {stop : D → Bool}
theorem gen_eval {Y : Yc} {ρ ρ1 ρ' : Env} {xs ys : List D} {cc P : Addr} {elt iter tg : Expr} {ifs : List Expr} {gpos : Pos} {scope : Scope} {own : List (Str × Nat)} {itm : M (List D)} {Q' : Value → Shared → Prop}
    (o : Of Z Y) (c : Cd X Z) (gc : Gcd X Z cc P) (hco : scope.isCoroutine = false) (ok : BlkOk X.N X.env.scope scope own) (hnc : ∀ y ∈ scope.names, y.2 ≠ .cell) (hdot : scope.names.lookup (".0" : Str) = some NameKind.local)
    (hi : eI X Z tg iter itm)
    (hg : ∀ (s : Shared) (H : Hp) (it : Addr) (genv : PySem.Env) (fp : List Addr) (ga : Addr) (go : Obj), genv.scope = scope → eG (Cxg X s H (gA X.A (.GeneratorExp elt [⟨tg, iter, ifs, 0⟩] scope gpos) it genv) genv fp ga go) Z tg tgt)
    (ht : ∀ (s : Shared) (H : Hp) (it : Addr) (genv : PySem.Env) (fp : List Addr) (ga : Addr) (go : Obj), genv.scope = scope → eTs (Cxg X s H (gA X.A (.GeneratorExp elt [⟨tg, iter, ifs, 0⟩] scope gpos) it genv) genv fp ga go) Z ifs (evC Φ Pp ts))
    (he : ∀ (s : Shared) (H : Hp) (it : Addr) (genv : PySem.Env) (fp : List Addr) (ga : Addr) (go : Obj), genv.scope = scope → eM (Cxg X s H (gA X.A (.GeneratorExp elt [⟨tg, iter, ifs, 0⟩] scope gpos) it genv) genv fp ga go) Z elt (ev Φ Pp t))
    (hn : ∀ i ∈ tgN tgt, i ∈ own.map (·.2)) (hs : ∀ v, genFold iter X.env v = pure v)
    (hkq : ∀ r ρ y ρ', kq r ρ = .ok y ρ' → y = some r.1 ∧ ρ' = ρ ∧ (isBool r.1 || isInt r.1) = true)
    (I : Inv X pins σ H s) (R0 : RepE Y ρ σ H) (e1 : itm ρ = .ok xs ρ1) (e2 : blk (own.map (·.2)) (seek (own.map (·.2)) (genM Φ Pp tgt ts t kq) stop xs) ρ1 = .ok ys ρ')
    (hQ : ∀ (ga : Addr) (n : Nat) (s5 : Shared) (St : Option Addr → Pot → List D → Shared → Prop) (Fn : Option Addr → Pot → Shared → Prop), s5.heap.IsGen ga n → (∀ So, Src X.prog X.w X.A.in1 ga stop (St So) (Fn So)) → St none none ys s5 →
      (∀ acc c tk, St (some s5.heap.objs.size) (some (s5.heap.objs.size, acc, c)) ys { s5 with heap := s5.heap.push (potO acc c), toks := tk }) →
      (∀ So p s', Fn So p s' → ∃ H3, Inv X pins σ H3 s' ∧ Post Y ρ ρ' σ H H3) → Q' (.ref ga) s5) :
    wpAny (model X.prog X.w) X.A (eval (.GeneratorExp elt [⟨tg, iter, ifs, 0⟩] scope gpos) X.env) Q' X.xe s := by
  obtain ⟨ρe, n1, er, ne, rfl⟩ := blk_ok e2
  refine gen_make (R := fun J H1 => Post Y ρ ρ1 σ H H1 ∧ Gives Y.K (Ex_ Y ρ1 σ) H1 J xs) gc.dp gc.TB gc.code hco ok c.nd hnc hdot (hi Y o) hs I ⟨ρ, R0, by rw [e1]; exact fun J H1 P1 G => ⟨gc.tab _ (o.2 ▸ P1.rep.tbs), P1, G⟩⟩ ?_
  intro it fp tn J H1 H2 s3 s5 genv ga go ⟨P1, G⟩ tabd I3 T f2 st5 mk hsc hga hgens hgen
  have fr : Fr (fun _ => False) H1 H2 := by
    obtain ⟨ps, hP, _⟩ := gc.tab _ (o.2 ▸ P1.rep.tbs)
    obtain ⟨⟨ps2, hP2, _⟩, keep⟩ := tabd
    refine ⟨fun a ob e _ nt => ?_, fun a e => ?_⟩
    · by_cases z : a = P
      · subst z; rw [hP] at e; cases e
        exact absurd rfl (nt ps)
      · rw [keep a z]; exact e
    · by_cases z : a = P
      · subst z; rw [hP2]; exact fun q => by cases q
      · rw [keep a z]; exact e
  have tb2 : Y.tb H2 := by rw [o.2]; exact gc.grow _ _ (o.2 ▸ P1.rep.tbs) tabd
  have R2 : RepE Y ρ1 σ H2 := P1.rep.keep fr tb2
  have P2 : Post Y ρ ρ1 σ H H2 := P1.trans ⟨R2, fr.mono fun _ z => z.elim, fun _ z => z, .refl _⟩
  have G2 : Gives Y.K (Ex_ Y ρ1 σ) H2 J xs := fun Hh O' k tr => G Hh O' ((fr.cut (fun _ z => z.elim) fun _ z => .inl z).trans k) tr
  let g : Option Addr → Gn := fun So => { ga := ga, go := go, Xg := Cxg X s3 H2 (gA X.A (.GeneratorExp elt [⟨tg, iter, ifs, 0⟩] scope gpos) it genv) genv fp ga go, fp := fp, it := it, tn := tn, J := J, tg := tg, iter := iter, ifs := ifs, elt := elt, scope := scope, gpos := gpos, vs := own.map (·.2), σ := σ, Y := Y, ρ1 := ρ1, ρe := ρe, H1 := H2, xs := xs, f := genM Φ Pp tgt ts t kq, stop := stop, So := So, all := ys }
  have K : ∀ So, Gok (g So) X.A.in1.in1 Z Φ Pp tgt ts t kq := fun So =>
    { over := rfl, calm := c.calm, co := by show genv.scope.isCoroutine = false; rw [hsc]; exact hco
      T := T, G := G2, o := o, ht := c.ht, pg := hg _ _ _ _ _ _ _ hsc, pt := ht _ _ _ _ _ _ _ hsc, pe := he _ _ _ _ _ _ _ hsc
      f := fun d => rfl, kq := hkq, tn := hn, ne := ne, ex := rfl, pn := rfl
      gaf := fun z => by have q := (f2 ga z).2; rw [hga] at q; exact absurd q (Nat.not_lt_of_lt (Nat.lt_succ_self _))
      xe := fun _ _ z => z }
  have I5 : Inv (g none).Xg [] (L2.wipe σ (own.map (·.2))) H2 s5 := mk _ gc.hd (by
    have e9 : X.A.frames = some X.stack := I.ok.frames
    simp only [gA, Around.over, e9]
    simp [pushEnvs_eq, envsOf, Code.envs, Code.isFrame, Code.env?])
  have L0 : LcG Y σ ρ1 H2 H2 (wipeE ρ1 (own.map (·.2))) (L2.wipe σ (own.map (·.2))) := LcG.wipe ⟨R2, .refl, fun _ z => z, .refl _⟩ n1
  have m0 : (g none).Mid 0 ys s5 := ⟨H2, _, [], rfl, I5, st5, fun b hb => (f2 b hb).1.1, (fun S z => by cases z), L0, Nat.zero_le _, er, [], rfl, fun _ z => by cases z⟩
  have hgo : s5.heap.get? ga = some go := (m0.gen (K none)).1
  refine hQ ga s3.gens.size s5 (fun So => (g So).St X.A.in1 s3.gens.size) (fun So => (g So).Fn) (hgen _ hgo) (fun So => gen_src (K So) hgen gc.hd gc.dp) ⟨rfl, 0, _, m0, hgens, fun s'' hm => ⟨rfl, seg_begin (K none) hm⟩⟩ (fun acc cc' tk => ?_) fun So p s' hF => ?_
  · have e0 : (s5.heap.push (potO acc cc')).get? s5.heap.objs.size = some (potO acc cc') := Heap.get?_push_size _ rfl
    have I8 : Inv (g none).Xg [(s5.heap.objs.size, potO acc cc')] (L2.wipe σ (own.map (·.2))) H2 { s5 with heap := s5.heap.push (potO acc cc'), toks := tk } :=
      (I5.kept (t' := tk) fun b u e => Heap.get?_push_of_some _ e).pins_of fun q hq => by
        rw [List.mem_singleton.mp hq]
        exact ⟨e0, I5.hok.fresh (Nat.le_refl _), Nat.ne_of_gt I5.lt, I5.nofs (Nat.le_refl _), fun v z => by cases z⟩
    have hb : ∀ b ∈ fp, b < s5.heap.objs.size := fun b hb => by
      obtain ⟨u, eu, _⟩ := T.obj _ _ st5 b hb
      exact Heap.lt_size eu
    have mS : (g (some s5.heap.objs.size)).Mid 0 ys { s5 with heap := s5.heap.push (potO acc cc'), toks := tk } :=
      ⟨H2, _, [(s5.heap.objs.size, potO acc cc')], ⟨acc, cc', rfl⟩, I8, T.keep _ _ _ st5 (fun b _ u e => Heap.get?_push_of_some _ e), fun b hb => (f2 b hb).1.1, (fun S z => by
        cases z
        exact ⟨fun q => Nat.lt_irrefl _ (hb _ q), I5.sz, Nat.ne_of_gt (Heap.lt_size hgo)⟩), L0, Nat.zero_le _, er, [], rfl, fun _ z => by cases z⟩
    exact ⟨⟨rfl, e0⟩, 0, _, mS, hgens, fun s'' hm => ⟨rfl, seg_begin (K (some s5.heap.objs.size)) hm⟩⟩
  · obtain ⟨_, H3, τ, pins', hp, I6, hw, L, ne'⟩ := hF
    have I7 : Inv X pins σ H3 s' := I3.call' (ch := fp) I6.os I6.base I6.hok I6.bare fun b hb => ⟨(f2 b hb).1.2.2.2.1, (f2 b hb).1.2.1, (f2 b hb).1.2.2.2.2.1, (f2 b hb).1.2.2.2.2.2⟩
    exact ⟨H3, I7, P2.trans (L.done R2 n1 ne hw)⟩
end
end Ty
set_option autoImplicit false
set_option maxHeartbeats 200000
/-! T8g: all, any, sum of a generator expression. -/
namespace Ty
open PySem PySem.Spec PyProof.Rows L2 GenW GxR
theorem seek_all {vs : List Nat} {f : D → M (Option D)} {stop : D → Bool} {pr : D → Bool} (hf : ∀ x ρ d ρ', f x ρ = .ok (some d) ρ' → pr d = true) : ∀ (xs ys : List D) (ρ ρ' : Env), seek vs f stop xs ρ = .ok ys ρ' → ∀ y ∈ ys, pr y = true
  | [], ys, ρ, ρ', h => by cases h; intro y hy; cases hy
  | x :: xs, ys, ρ, ρ', h => by
    obtain ⟨y, ρ3, e1, _, h2⟩ := seek_cons h
    rcases h2 with ⟨d, rfl, _, rfl, _⟩ | ⟨d, zs, rfl, _, e, rfl⟩ | ⟨_, e⟩
    · intro z hz
      rw [List.mem_singleton.mp hz]
      exact hf _ _ _ _ e1
    · intro z hz
      rcases (List.mem_cons.mp hz) with rfl | hz
      · exact hf _ _ _ _ e1
      · exact seek_all hf xs zs _ _ e z hz
    · exact seek_all hf xs ys _ _ e
def kqB (r : R) : M (Option D) := bnd (asBool r) fun _ => ret (some r.1)
def kqI (r : R) : M (Option D) := match r.1 with
  | .int _ => ret (some r.1)
  | _ => fun _ => .bad
theorem kqB_ok {r : R} {ρ ρ' : Env} {y : Option D} (h : kqB r ρ = .ok y ρ') : y = some r.1 ∧ ρ' = ρ ∧ isBool r.1 = true := by
  obtain ⟨b, ρ1, e1, e2⟩ := bnd_ok h
  obtain ⟨h1, rfl⟩ := asBool_ok e1
  cases e2
  exact ⟨rfl, rfl, by rw [h1]; rfl⟩
theorem kqI_ok {r : R} {ρ ρ' : Env} {y : Option D} (h : kqI r ρ = .ok y ρ') : y = some r.1 ∧ ρ' = ρ ∧ isInt r.1 = true := by
  obtain ⟨d, b⟩ := r
  cases d <;> first | (cases h; exact ⟨rfl, rfl, rfl⟩) | cases h
section
variable {prog : Program} {w : World} {A : Around} {I : Addr} {E : Value → Shared → Prop} {s : Shared}
theorem call_all_src {x : Value} {Q : Value → Shared → Prop} (h : wpAny (model prog w) A.in1 (pyIter x) (fun it s₂ => ∃ I St Fn ys, it = .ref I ∧ Src prog w A.in1 I (fun d => !isT d) St Fn ∧ St none ys s₂ ∧ (∀ y ∈ ys, isBool y = true) ∧ ∀ s', Fn none s' → Q (.bool (ys.all isT)) s') E s) :
    (wpAny (model prog w) A (call (.builtin "all") [x]) Q E s) := by
  refine (call_function_tree F.kind_all F.plain_all F.entry_all (F.args_all1 _) ?_)
  unfold Builtin.«all»
  refine wpAny_bind (m := oneArg "all" _) (wpAny_pure (wpAny_bind (wpAny_mono h (fun it s₂ h₂ => ?_) fun _ _ e => e)))
  obtain ⟨I, St, Fn, ys, rfl, W, hst, hb, hQ⟩ := h₂
  exact wpAny_pure ⟨plainId_quiet F.plain_all_loop _, all_src W ys s₂ hb hst fun s' f => hQ s' f⟩
theorem call_any_src {x : Value} {Q : Value → Shared → Prop} (h : wpAny (model prog w) A.in1 (pyIter x) (fun it s₂ => ∃ I St Fn ys, it = .ref I ∧ Src prog w A.in1 I isT St Fn ∧ St none ys s₂ ∧ (∀ y ∈ ys, isBool y = true) ∧ ∀ s', Fn none s' → Q (.bool (ys.any isT)) s') E s) :
    (wpAny (model prog w) A (call (.builtin "any") [x]) Q E s) := by
  refine (call_function_tree F.kind_any F.plain_any F.entry_any (F.args_any1 _) ?_)
  unfold Builtin.«any»
  refine wpAny_bind (m := oneArg "any" _) (wpAny_pure (wpAny_bind (wpAny_mono h (fun it s₂ h₂ => ?_) fun _ _ e => e)))
  obtain ⟨I, St, Fn, ys, rfl, W, hst, hb, hQ⟩ := h₂
  exact wpAny_pure ⟨plainId_quiet F.plain_any_loop _, any_src W ys s₂ hb hst fun s' f => hQ s' f⟩
end
section
variable {X : Cx} {Z : Zc} {Φ : Fns} {Pp : Pars} {tgt : Tg} {ts : Exs} {t : Ex} {it : It}
theorem m_all {cc P : Addr} {elt iter tg : Expr} {ifs : List Expr} {p pos gpos : Pos} {scope : Scope} {own : List (Str × Nat)}
    (c : Cd X Z) (gc : Gcd X Z cc P) (hco : scope.isCoroutine = false) (ok : BlkOk X.N X.env.scope scope own) (hnc : ∀ y ∈ scope.names, y.2 ≠ .cell) (hdot : scope.names.lookup (".0" : Str) = some NameKind.local)
    (hi : eI X Z tg iter (evI Φ Pp it))
    (hg : ∀ (s : Shared) (H : Hp) (it : Addr) (genv : PySem.Env) (fp : List Addr) (ga : Addr) (go : Obj), genv.scope = scope → eG (Cxg X s H (gA X.A (.GeneratorExp elt [⟨tg, iter, ifs, 0⟩] scope gpos) it genv) genv fp ga go) Z tg tgt)
    (ht : ∀ (s : Shared) (H : Hp) (it : Addr) (genv : PySem.Env) (fp : List Addr) (ga : Addr) (go : Obj), genv.scope = scope → eTs (Cxg X s H (gA X.A (.GeneratorExp elt [⟨tg, iter, ifs, 0⟩] scope gpos) it genv) genv fp ga go) Z ifs (evC Φ Pp ts))
    (he : ∀ (s : Shared) (H : Hp) (it : Addr) (genv : PySem.Env) (fp : List Addr) (ga : Addr) (go : Obj), genv.scope = scope → eM (Cxg X s H (gA X.A (.GeneratorExp elt [⟨tg, iter, ifs, 0⟩] scope gpos) it genv) genv fp ga go) Z elt (ev Φ Pp t))
    (hm : X.mg "all" = none) (hb : bootBuiltins "all" = some (.builtin "all")) (hgl : Gl X "all" := by rfl) (hn : ∀ i ∈ tgN tgt, i ∈ own.map (·.2) := by decide) (hs : ∀ v, genFold iter X.env v = pure v := by intro _; rfl)
    (hst : starEach [.GeneratorExp elt [⟨tg, iter, ifs, 0⟩] scope gpos] X.env = (false, eval (.GeneratorExp elt [⟨tg, iter, ifs, 0⟩] scope gpos) X.env) :: starEach [] X.env := by rfl) :
    eM X Z (.Call (.Name "all" p) [.GeneratorExp elt [⟨tg, iter, ifs, 0⟩] scope gpos] [] pos) (ev Φ Pp (.gen .all (own.map (·.2)) tgt it ts t)) := fun Y o => by
  refine (⟨fun pins s σ H Q I h => ?_⟩)
  obtain ⟨ρ, r, ρ', R, e, k⟩ := tM_of h
  rw [ev] at e
  obtain ⟨xs, ρ1, e1, e2⟩ := bnd_ok e
  obtain ⟨ys, ρ2, e3, e4⟩ := bnd_ok e2
  cases e4
  have e3' : blk (own.map (·.2)) (seek (own.map (·.2)) (genM Φ Pp tgt ts t kqB) (fun d => !isT d) xs) ρ1 = .ok ys ρ' := e3
  refine wpAny_Call_Name_kw (ld_blt I hgl hm hb ?_)
  refine PyProof.Rows.callWith_builtin1 ?_ hst (by rfl)
  rw [hst]
  show wpAny _ _ (spliced ((false, eval (.GeneratorExp elt [⟨tg, iter, ifs, 0⟩] scope gpos) X.env) :: backTo pos (starEach [] X.env))) _ _ s
  refine Calls.spliced_cons (gen_eval o c gc hco ok hnc hdot hi hg ht he hn hs (fun r ρ y ρ' h => by obtain ⟨a, b, d⟩ := kqB_ok h; exact ⟨a, b, by rw [d]; rfl⟩) I R e1 e3' fun ga n s5 St Fn hg5 W st0 _ hF => ?_)
  refine Calls.spliced_nil ?_
  refine call_all_src (wpAny_pyIter_gen hg5 ⟨ga, St none, Fn none, ys, rfl, W none, st0, ?_, fun s' f => ?_⟩)
  · obtain ⟨ρe, _, er, _, _⟩ := blk_ok e3'
    refine seek_all (fun x ρ d ρ' h => ?_) xs ys _ _ er
    obtain ⟨_, ρa, _, s2⟩ := bnd_ok h
    obtain ⟨b, ρb, _, s4⟩ := bnd_ok s2
    split at s4
    · obtain ⟨r, ρc, _, s6⟩ := bnd_ok s4
      obtain ⟨a, _, hh⟩ := kqB_ok s6
      cases a
      exact hh
    · cases s4
  · obtain ⟨H3, I3, P3⟩ := hF none none s' f
    exact ⟨.bl _, H3, I3, rfl, k _ _ P3 (show Rp _ _ (.bl _) (.bool _) by constructor)⟩
theorem m_any {cc P : Addr} {elt iter tg : Expr} {ifs : List Expr} {p pos gpos : Pos} {scope : Scope} {own : List (Str × Nat)}
    (c : Cd X Z) (gc : Gcd X Z cc P) (hco : scope.isCoroutine = false) (ok : BlkOk X.N X.env.scope scope own) (hnc : ∀ y ∈ scope.names, y.2 ≠ .cell) (hdot : scope.names.lookup (".0" : Str) = some NameKind.local)
    (hi : eI X Z tg iter (evI Φ Pp it))
    (hg : ∀ (s : Shared) (H : Hp) (it : Addr) (genv : PySem.Env) (fp : List Addr) (ga : Addr) (go : Obj), genv.scope = scope → eG (Cxg X s H (gA X.A (.GeneratorExp elt [⟨tg, iter, ifs, 0⟩] scope gpos) it genv) genv fp ga go) Z tg tgt)
    (ht : ∀ (s : Shared) (H : Hp) (it : Addr) (genv : PySem.Env) (fp : List Addr) (ga : Addr) (go : Obj), genv.scope = scope → eTs (Cxg X s H (gA X.A (.GeneratorExp elt [⟨tg, iter, ifs, 0⟩] scope gpos) it genv) genv fp ga go) Z ifs (evC Φ Pp ts))
    (he : ∀ (s : Shared) (H : Hp) (it : Addr) (genv : PySem.Env) (fp : List Addr) (ga : Addr) (go : Obj), genv.scope = scope → eM (Cxg X s H (gA X.A (.GeneratorExp elt [⟨tg, iter, ifs, 0⟩] scope gpos) it genv) genv fp ga go) Z elt (ev Φ Pp t))
    (hm : X.mg "any" = none) (hb : bootBuiltins "any" = some (.builtin "any")) (hgl : Gl X "any" := by rfl) (hn : ∀ i ∈ tgN tgt, i ∈ own.map (·.2) := by decide) (hs : ∀ v, genFold iter X.env v = pure v := by intro _; rfl)
    (hst : starEach [.GeneratorExp elt [⟨tg, iter, ifs, 0⟩] scope gpos] X.env = (false, eval (.GeneratorExp elt [⟨tg, iter, ifs, 0⟩] scope gpos) X.env) :: starEach [] X.env := by rfl) :
    eM X Z (.Call (.Name "any" p) [.GeneratorExp elt [⟨tg, iter, ifs, 0⟩] scope gpos] [] pos) (ev Φ Pp (.gen .any (own.map (·.2)) tgt it ts t)) := fun Y o => by
  refine (⟨fun pins s σ H Q I h => ?_⟩)
  obtain ⟨ρ, r, ρ', R, e, k⟩ := tM_of h
  rw [ev] at e
  obtain ⟨xs, ρ1, e1, e2⟩ := bnd_ok e
  obtain ⟨ys, ρ2, e3, e4⟩ := bnd_ok e2
  cases e4
  have e3' : blk (own.map (·.2)) (seek (own.map (·.2)) (genM Φ Pp tgt ts t kqB) isT xs) ρ1 = .ok ys ρ' := e3
  refine wpAny_Call_Name_kw (ld_blt I hgl hm hb ?_)
  refine PyProof.Rows.callWith_builtin1 ?_ hst (by rfl)
  rw [hst]
  show wpAny _ _ (spliced ((false, eval (.GeneratorExp elt [⟨tg, iter, ifs, 0⟩] scope gpos) X.env) :: backTo pos (starEach [] X.env))) _ _ s
  refine Calls.spliced_cons (gen_eval o c gc hco ok hnc hdot hi hg ht he hn hs (fun r ρ y ρ' h => by obtain ⟨a, b, d⟩ := kqB_ok h; exact ⟨a, b, by rw [d]; rfl⟩) I R e1 e3' fun ga n s5 St Fn hg5 W st0 _ hF => ?_)
  refine Calls.spliced_nil ?_
  refine call_any_src (wpAny_pyIter_gen hg5 ⟨ga, St none, Fn none, ys, rfl, W none, st0, ?_, fun s' f => ?_⟩)
  · obtain ⟨ρe, _, er, _, _⟩ := blk_ok e3'
    refine seek_all (fun x ρ d ρ' h => ?_) xs ys _ _ er
    obtain ⟨_, ρa, _, s2⟩ := bnd_ok h
    obtain ⟨b, ρb, _, s4⟩ := bnd_ok s2
    split at s4
    · obtain ⟨r, ρc, _, s6⟩ := bnd_ok s4
      obtain ⟨a, _, hh⟩ := kqB_ok s6
      cases a
      exact hh
    · cases s4
  · obtain ⟨H3, I3, P3⟩ := hF none none s' f
    exact ⟨.bl _, H3, I3, rfl, k _ _ P3 (show Rp _ _ (.bl _) (.bool _) by constructor)⟩
end
end Ty
set_option autoImplicit false
set_option maxHeartbeats 200000
/-! T8h: sum of a generator expression. -/
namespace Ty
open PySem PySem.Spec PyProof.Rows L2 GenW GxR
section
variable {prog : Program} {w : World} {A : Around} {I : Addr} {E : Value → Shared → Prop} {s : Shared}
theorem call_sum_src {x : Value} {Q : Value → Shared → Prop} (h : wpAny (model prog w) A.in1 (pyIter x) (fun it s₂ => ∃ I St Fn ys, it = .ref I ∧ Src prog w A.in1 I (fun _ => false) St Fn ∧ (∀ acc c tk, St (some (s₂.heap.objs.size, acc, c)) ys { s₂ with heap := s₂.heap.push (potO acc c), toks := tk }) ∧ (∀ y ∈ ys, isInt y = true) ∧ ∀ s' p t', Fn p s' → Q (.int (sumD ys) t') s') E s) :
    (wpAny (model prog w) A (call (.builtin "sum") [x]) Q E s) := by
  refine (call_function_tree F.kind_sum F.plain_sum F.entry_sum (F.args_sum1 _) ?_)
  unfold Builtin.«sum»
  simp only [List.length_nil, List.length_cons]
  rw [if_neg (by decide)]
  refine (wpAny_bind (wpAny_of_eq (show Builtin.Builtins.bindParams "sum" ["start"] 0 { } = pure [none] from rfl) ?_))
  refine (wpAny_bind (wpAny_mono h (fun it s₂ h₂ => ?_) fun _ _ e => e))
  obtain ⟨I, St, Fn, ys, rfl, W, hst, hb, hQ⟩ := h₂
  refine wpAny_bind (wpAny_mkInt (wpAny_bind (wpAny_pure ?_)))
  simp only [List.forIn_nil, List.forIn_cons]
  refine wpAny_bind (wpAny_bind (wpAny_bind (wpAny_isInstance (T := "int") (b := false) (typeIs_int _ _ _) PySem.sub_int_str ?_)))
  simp only [if_false, Bool.false_eq_true]
  refine wpAny_pure (wpAny_bind (wpAny_bind (wpAny_isInstance (T := "int") (b := false) (typeIs_int _ _ _) PySem.sub_int_bytes ?_)))
  simp only [if_false, Bool.false_eq_true]
  refine wpAny_pure (wpAny_bind (wpAny_bind (wpAny_isInstance (T := "int") (b := false) (typeIs_int _ _ _) PySem.sub_int_bytearray ?_)))
  simp only [if_false, Bool.false_eq_true]
  refine wpAny_pure (wpAny_pure (wpAny_bind (wpAny_newObj_type ?_)))
  refine wpAny_pure ⟨plainId_quiet F.plain_sum_loop _, sum_src W s₂.heap.objs.size ys _ 0 s₂.toks 0 0 (.inl rfl) hb (hst _ 0 _) fun s' p t' f _ => ?_⟩
  rw [show (0 : Int) + sumD ys = sumD ys by omega]
  exact hQ s' p t' f
end
theorem sumD_ok : ∀ {ys : List D} {n : Int}, sumInts ys = some n → sumD ys = n
  | [], n, h => by cases h; rfl
  | d :: ys, n, h => by
    cases d with
    | int i =>
      unfold sumInts at h
      simp only [intsOf, Option.map_eq_some_iff] at h
      obtain ⟨l, ⟨m, hm, rfl⟩, rfl⟩ := h
      have z := sumD_ok (ys := ys) (n := m.sum) (by unfold sumInts; rw [hm]; rfl)
      show i + sumD ys = _
      rw [z]; simp
    | _ => simp [sumInts, intsOf] at h
section
variable {X : Cx} {Z : Zc} {Φ : Fns} {Pp : Pars} {tgt : Tg} {ts : Exs} {t : Ex} {it : It}
theorem m_sum {cc P : Addr} {elt iter tg : Expr} {ifs : List Expr} {p pos gpos : Pos} {scope : Scope} {own : List (Str × Nat)}
    (c : Cd X Z) (gc : Gcd X Z cc P) (hco : scope.isCoroutine = false) (ok : BlkOk X.N X.env.scope scope own) (hnc : ∀ y ∈ scope.names, y.2 ≠ .cell) (hdot : scope.names.lookup (".0" : Str) = some NameKind.local)
    (hi : eI X Z tg iter (evI Φ Pp it))
    (hg : ∀ (s : Shared) (H : Hp) (it : Addr) (genv : PySem.Env) (fp : List Addr) (ga : Addr) (go : Obj), genv.scope = scope → eG (Cxg X s H (gA X.A (.GeneratorExp elt [⟨tg, iter, ifs, 0⟩] scope gpos) it genv) genv fp ga go) Z tg tgt)
    (ht : ∀ (s : Shared) (H : Hp) (it : Addr) (genv : PySem.Env) (fp : List Addr) (ga : Addr) (go : Obj), genv.scope = scope → eTs (Cxg X s H (gA X.A (.GeneratorExp elt [⟨tg, iter, ifs, 0⟩] scope gpos) it genv) genv fp ga go) Z ifs (evC Φ Pp ts))
    (he : ∀ (s : Shared) (H : Hp) (it : Addr) (genv : PySem.Env) (fp : List Addr) (ga : Addr) (go : Obj), genv.scope = scope → eM (Cxg X s H (gA X.A (.GeneratorExp elt [⟨tg, iter, ifs, 0⟩] scope gpos) it genv) genv fp ga go) Z elt (ev Φ Pp t))
    (hm : X.mg "sum" = none) (hb : bootBuiltins "sum" = some (.builtin "sum")) (hgl : Gl X "sum" := by rfl) (hn : ∀ i ∈ tgN tgt, i ∈ own.map (·.2) := by decide) (hs : ∀ v, genFold iter X.env v = pure v := by intro _; rfl)
    (hst : starEach [.GeneratorExp elt [⟨tg, iter, ifs, 0⟩] scope gpos] X.env = (false, eval (.GeneratorExp elt [⟨tg, iter, ifs, 0⟩] scope gpos) X.env) :: starEach [] X.env := by rfl) :
    eM X Z (.Call (.Name "sum" p) [.GeneratorExp elt [⟨tg, iter, ifs, 0⟩] scope gpos] [] pos) (ev Φ Pp (.gen .sum (own.map (·.2)) tgt it ts t)) := fun Y o => by
  refine (⟨fun pins s σ H Q I h => ?_⟩)
  obtain ⟨ρ, r, ρ', R, e, k⟩ := tM_of h
  rw [ev] at e
  obtain ⟨xs, ρ1, e1, e2⟩ := bnd_ok e
  obtain ⟨ys, ρ2, e3, e4⟩ := bnd_ok e2
  obtain ⟨nn, ρ3, e5, e6⟩ := bnd_ok e4
  obtain ⟨hs1, rfl⟩ := lft_ok e5
  cases e6
  have e3' : blk (own.map (·.2)) (seek (own.map (·.2)) (genM Φ Pp tgt ts t kqI) (fun _ => false) xs) ρ1 = .ok ys ρ' := e3
  refine wpAny_Call_Name_kw (ld_blt I hgl hm hb ?_)
  refine PyProof.Rows.callWith_builtin1 ?_ hst (by rfl)
  rw [hst]
  show wpAny _ _ (spliced ((false, eval (.GeneratorExp elt [⟨tg, iter, ifs, 0⟩] scope gpos) X.env) :: backTo pos (starEach [] X.env))) _ _ s
  refine Calls.spliced_cons (gen_eval o c gc hco ok hnc hdot hi hg ht he hn hs (fun r ρ y ρ' h => by obtain ⟨a, b, d⟩ := kqI_ok h; exact ⟨a, b, by rw [d]; simp⟩) I R e1 e3' fun ga n s5 St Fn hg5 W _ st0 hF => ?_)
  refine Calls.spliced_nil ?_
  refine call_sum_src (wpAny_pyIter_gen hg5 ⟨ga, St (some s5.heap.objs.size), Fn (some s5.heap.objs.size), ys, rfl, W _, st0, ?_, fun s' p t' f => ?_⟩)
  · obtain ⟨ρe, _, er, _, _⟩ := blk_ok e3'
    refine seek_all (fun x ρ d ρ' h => ?_) xs ys _ _ er
    obtain ⟨_, ρa, _, s2⟩ := bnd_ok h
    obtain ⟨b, ρb, _, s4⟩ := bnd_ok s2
    split at s4
    · obtain ⟨r, ρc, _, s6⟩ := bnd_ok s4
      obtain ⟨a, _, hh⟩ := kqI_ok s6
      cases a
      exact hh
    · cases s4
  · obtain ⟨H3, I3, P3⟩ := hF _ p s' f
    rw [sumD_ok hs1]
    exact ⟨.int nn, H3, I3, ⟨t', rfl⟩, k _ _ P3 (show Rp _ _ (.int nn) (.int nn) by constructor)⟩
end
end Ty
set_option autoImplicit false
set_option maxHeartbeats 200000
/-! T8i: levels: a generator's frame costs one. -/
namespace Ty
open PySem.Spec PyProof.Rows L2 PySem
theorem def_okL {P : Program} {w : World} {K : PySem.W.Frag} {mg : Str → Option Value} {base : Heap} {x qual : Str} {st : Stmt} {f : Addr} {fd : FuncData} {N ps : List Str} {k l : Nat} {tb : Hp → Prop} {tab : Str → Option Df} {Pp : Pars} {nm : Str} {d : Df} (F : Fun K x qual st f fd) (S : FnScope N ps (defScope st))
    (hd : tab nm = some d) (hN : N.length = d.m) (hm : d.n ≤ d.m) (hp : ps.length = d.n) (ht : TbOk tb)
    (hb : ∀ (cdv : Value) (A : Around) (outer : List PySem.Env) (s : Shared) (H : Hp), Room l (A.deeper (envOfC qual (defScope st) s.heap.objs.size f cdv)) → Cd (cxOf CX0 P w K mg base N qual (defScope st) f cdv A outer s H E0).nox ⟨K, tb⟩ →
      eSs (cxOf CX0 P w K mg base N qual (defScope st) f cdv A outer s H E0).nox ⟨K, tb⟩ (defBody st) (exs (run tab Pp k) Pp d.body)) :
    FnG P w K mg base (l + 1) f fd ps (spT ⟨K, tb⟩ (run tab Pp (k + 1) nm)) := by
  refine fnG_of F S (fun vs H Q h => (body_ok hd hN hm h).1.trans hp.symm) fun cdv A outer s H vs Q hr hg h => ?_
  obtain ⟨_, Y, o, t⟩ := body_ok hd hN hm h
  have un : (A.deeper (envOfC qual (defScope st) s.heap.objs.size f cdv)).units + 70 < cLine := by
    have q := hr.un
    omega
  exact ⟨_, hb cdv A outer s H hr ⟨rfl, ht, rfl, un, hg, S.nd⟩ Y o, t⟩
/-- room within a generator's frame -/
theorem room_gA {A : Around} {e1 : Expr} {gs : List Comprehension} {sc : Scope} {p : Pos} {it : Addr} {genv : PySem.Env} {k : Nat} (r : Room (k + 1) A) : Room k (gA A (.GeneratorExp e1 gs sc p) it genv) := by
  refine ⟨r.hd, ?_, ?_⟩
  · have q := r.dp
    show A.depth + 0 + 1 + 3 * k + 5 < recursionLimit
    omega
  · have q := r.un
    show A.units + 1 + 1 + 0 + 3 + 16 * k + 200 < cLine
    omega
theorem guards_gA {A : Around} {e1 : Expr} {gs : List Comprehension} {sc : Scope} {p : Pos} {it : Addr} {genv : PySem.Env} (h : A.guards = some []) : (gA A (.GeneratorExp e1 gs sc p) it genv).guards = some [] := by
  simp only [gA, Around.over, h]
  simp [pushGuards_eq, guardsOf, Code.guards, Code.isGuard]
end Ty
set_option autoImplicit false
set_option maxHeartbeats 200000
/-! T9a: sorted of a set of ints, of any size up to the scan's bound. -/
namespace Ty
open PySem PySem.Spec PyProof.Rows L2 PySem.W
section
variable {P : Program} {w : World} {A : Around} {E : Value → Shared → Prop} {s : Shared} {a : Addr}
theorem ints_each {h : Heap} : ∀ {vs : List Value} {ns : List Int}, IntsAre vs ns → PySem.W.EachIs (fun v d => ∃ as, Reads h v d as) vs (ns.map PyData.int)
  | _, _, .nil => .nil
  | _, _, .cons k tk r => .cons ⟨_, .int k tk⟩ (ints_each r)
theorem ints_is : ∀ {vs : List Value} {ns : List Int}, IntsAre vs ns → PySem.W.EachIs (fun v k => ∃ t, v = Value.int k t) vs ns
  | _, _, .nil => .nil
  | _, _, .cons k tk r => .cons ⟨tk, rfl⟩ (ints_is r)
theorem ints_rd {h : Heap} : ∀ {vs : List Value} {ns : List Int}, IntsAre vs ns → PySem.W.EachIs (fun v k => ∃ as, Reads h v (PyData.int k) as) vs ns
  | _, _, .nil => .nil
  | _, _, .cons k tk r => .cons ⟨_, .int k tk⟩ (ints_rd r)
theorem cmp_ints : ∀ ns : List Int, allCmp (ns.map PyData.int) = true := by
  intro ns
  have h : (ns.map PyData.int).all isInt = true := List.all_eq_true.mpr fun d hd => by
    obtain ⟨i, _, rfl⟩ := List.mem_map.mp hd
    rfl
  unfold allCmp
  rw [h]; rfl
theorem sorted_setL {S : Int → Bool} {n : Nat} {Q : Value → Shared → Prop} (R : SetR w s.heap a S n) (hh : A.handled = none) (hu : A.units + 70 < cLine)
    (hQ : ∀ s' p (vs : List Value) (c : Nat) (ns : List Int), (∀ b o, s.heap.get? b = some o → s'.heap.get? b = some o) → s'.gens = s.gens → s'.os = s.os → s.heap.objs.size ≤ p →
      s'.heap.get? p = some (seqObj "list" vs.toArray c) → PySem.W.EachIs (fun v k => ∃ t, v = Value.int k t) vs (ns.mergeSort (dataLe false PyData.int)) → ns.Nodup → (∀ k, k ∈ ns ↔ S k = true) → ns.length = n → Q (.ref p) s') :
    (wpAny (model P w) A (call (.builtin "sorted") [.ref a]) Q E s) := by
  obtain ⟨o, es, ep, t, ho, hex, hd, g, nd, hm, hb, hf, hn, hr, hl⟩ := (R)
  refine (Calls.call_function_entry kind_sorted plain_sorted entry_sorted (args_sorted1 _) ?_)
  unfold Builtin.«sorted»
  refine (wpAny_bind (m := checkCount "sorted" 1 1 _) (wpAny_pure ?_))
  refine (wpAny_bind (collect_set (A := A.in1) hh ⟨o, ho, hex.1, hd⟩ hf hb hr hl fun s1 vs k1 hz g1 o1 pm => ?_))
  have hvl : vs.length = n := (by rw [pm.length_eq, List.length_map, Array.length_toList]; exact hn)
  have hI : (IntsAre vs (vs.map Builtin.Re.reRawOf)) := ints_of vs fun v hv => by
    obtain ⟨e, he, q⟩ := (List.mem_map.mp (pm.mem_iff.mp hv))
    obtain ⟨k, tk, h1, _⟩ := (g e he)
    exact (⟨k, tk, by rw [← q]; exact h1⟩)
  have pk : ((vs.map Builtin.Re.reRawOf).Perm (es.toList.map keyOf)) := by
    have q := (pm.map Builtin.Re.reRawOf)
    rw [List.map_map] at q
    exact q
  have hL : vs.length ≤ sizeLine := by rw [hvl, ← hn, sizeLine_eq]; exact Nat.le_trans (Nat.le_of_lt hb) (by decide)
  refine (wpAny_bind (wpAny_newList ?_ hL))
  have hoL : (s1.heap.push (seqObj "list" vs.toArray 0)).get? s1.heap.objs.size = some (seqObj "list" vs.toArray 0) := (Heap.get?_push_size _ rfl)
  have E3 := ints_each (h := sortingHeap (s1.heap.push (seqObj "list" vs.toArray 0)) s1.heap.objs.size vs) hI
  have S1 : SortsAt P w A.in1.in1 { s1 with heap := sortingHeap (s1.heap.push (seqObj "list" vs.toArray 0)) s1.heap.objs.size vs } (dataKind (sortingHeap (s1.heap.push (seqObj "list" vs.toArray 0)) s1.heap.objs.size vs) ((vs.map Builtin.Re.reRawOf).map PyData.int)) vs :=
    sort_at E3 (cmp_ints _) (by show A.units + 1 + 1 + 62 < cLine; omega)
  refine wpAny_bind (wpAny_holding (wpAny_call_entry slot_list_sort ⟨_, hoL, rfl⟩ entry_list_sort (list_sort_vals hoL S1 hL ⟨_, rfl, ?_⟩) (args_list_sort _)))
  have pn := pk
  have E1 : PySem.W.EachIs (fun v k => ∃ t, v = Value.int k t) vs (vs.map Builtin.Re.reRawOf) := ints_is hI
  have E2 := ints_rd (h := sortingHeap (s1.heap.push (seqObj "list" vs.toArray 0)) s1.heap.objs.size vs) hI
  have E4 := sortVals_data (enc := PyData.int) false E1 E2 (cmp_of (cmp_ints _)).1
  obtain ⟨c, hc⟩ := sortedHeap_at (vs := vs) (out := (sortVals (dataKind (sortingHeap (s1.heap.push (seqObj "list" vs.toArray 0)) s1.heap.objs.size vs) ((vs.map Builtin.Re.reRawOf).map PyData.int)) false vs vs).toArray) hoL
  refine wpAny_pure ⟨_, rfl, hQ _ s1.heap.objs.size _ c _ (fun b u e => ?_) g1 o1 hz hc E4 (pn.nodup_iff.mpr nd) (fun k => by rw [pn.mem_iff, ← hm k]) ?_⟩
  · have q := k1 b u e
    have hlt := Heap.lt_size q
    show (sortedHeap (s1.heap.push (seqObj "list" vs.toArray 0)) s1.heap.objs.size vs _).get? b = some u
    rw [sortedHeap_old (Nat.ne_of_lt hlt) ((by rw [size_push']; exact Nat.lt_succ_of_lt hlt))]
    exact (Heap.get?_push_of_some _ q)
  · rw [(pn.length_eq), List.length_map, Array.length_toList]; exact hn
end
end Ty
set_option autoImplicit false
set_option maxHeartbeats 4000001
/-! T9b: set(list of ints). -/
namespace Ty
open PySem.Spec PyProof.Rows L2 PySem
section
variable {P : Program}
variable {w : World} {A : Around} {E : Value → Shared → Prop} {s : Shared}
set_option maxHeartbeats 3200001 in
theorem set_of_list {l : Addr} {its : Array Value} (ns : List Int) {Q : Value → Shared → Prop} (zh : A.handled = none) (zl : s.heap.IsList l its) (zit : IntsAre its.toList ns) (zb : ns.length + 1 < scanBound)
    (zz : ∀ (h' : Heap) (tk c : Nat), SetR w h' s.heap.objs.size (fun j => decide (j ∈ ns)) c → c ≤ ns.length → (∀ b o, s.heap.get? b = some o → h'.get? b = some o) → Q (.ref s.heap.objs.size) { s with heap := h', toks := tk }) :
    (wpAny (model P w) A (call (.type "set") [.ref l]) Q E s) := by
  have zsz : its.size = ns.length := by
    have q := IntsAre.length zit
    rw [Array.length_toList] at q
    exact q
  obtain ⟨c, tl, zmro⟩ := F.called_set.mro
  have zmade := F.called_set.made
  have zsub := F.called_set.sub
  refine (wpAny_call (codeAny_of_tree ?_))
  show (wpAny _ _ (callAny (.type "set") _) _ _ _)
  refine (wpAny_pure ⟨Code.quiet_builtin _ (by decide +kernel), codeAny_builtin F.entry_type_call ?_⟩)
  rw [(Around.under_plain (weight_type_call_type "set" [.ref l] []) rfl)]
  have z1 := F.called_set.notType
  have z2 := F.called_set.canCreate
  have zct := F.typeCall_set_1 (.ref l)
  (repeat (any_goals (first | assumption | wp_step)))

  refine codeAny_mono (code_set_led1 (.ref l) (E := E) (Q₁ := fun obj s₁ => obj = .ref s.heap.objs.size ∧ s₁ = { s with heap := s.heap.push { cls := .type "set", dict := none, data := .set #[] 0 (.fresh 0 0 (!w.params.followText "set-order")) } }) ⟨rfl, rfl⟩) fun r s₁ zr => ?_
  cases r with
  | error e => exact zr
  | ok fl =>
    cases fl with
    | ret obj =>
      obtain ⟨rfl, rfl⟩ := zr
      have zS : (s.heap.push { cls := .type "set", dict := none, data := .set #[] 0 (.fresh 0 0 (!w.params.followText "set-order")) }).get? s.heap.objs.size = some { cls := .type "set", dict := none, data := .set #[] 0 (.fresh 0 0 (!w.params.followText "set-order")) } := Heap.get?_push_size _ rfl
      have zT : Shared.TypeIs { s with heap := s.heap.push { cls := .type "set", dict := none, data := .set #[] 0 (.fresh 0 0 (!w.params.followText "set-order")) } } (.ref s.heap.objs.size) "set" := ⟨_, zS, rfl⟩
      have zli := F.called_set.init.lookup
      have zbi := F.called_set.init.bind (.ref s.heap.objs.size)
      (repeat (any_goals (first | assumption | wp_step)))

      refine codeAny_mono (codeAny_call_builtin (R := wants (fun r s₂ => r = .none ∧ ∃ h' tk c, s₂ = { s with heap := h', toks := tk } ∧ SetR w h' s.heap.objs.size (fun j => decide (j ∈ ns)) c ∧ c ≤ ns.length ∧ (∀ b o, s.heap.get? b = some o → h'.get? b = some o)) E) F.called_set.init.plain F.entry_set_init (check_set_init_1 zT ?_)) fun r₂ s₂ zr2 => ?_
      · obtain ⟨ol, zol, zcl, nl, zdl⟩ := zl
        obtain ⟨oc, od, odt, osl⟩ := ol
        simp only at zcl zdl
        subst zcl; subst zdl
        have zol' : (s.heap.push { cls := .type "set", dict := none, data := .set #[] 0 (.fresh 0 0 (!w.params.followText "set-order")) }).get? l = some { cls := .type "list", dict := od, data := .seq its nl, slots := osl } := Heap.get?_push_of_some _ zol
        have zs1 := F.sub_list_set
        have zs2 := F.sub_list_frozenset
        have zne : (Value.type "list" == Value.type "dict") = false := by decide
        have zl1 : (s.heap.push { cls := .type "set", dict := none, data := .set #[] 0 (.fresh 0 0 (!w.params.followText "set-order")) }).IsList l its := ⟨_, zol', rfl, nl, rfl⟩
        unfold Builtin.«set.__init__»; unfold noKeywords Builtin.Frozenset.updateFrom
        generalize hPI : pyIter = PI
        wp_walk
        subst hPI

        refine wpAny_pyIter_list zl1 ?_
        refine (wpAny_bind (wpAny_runValue ?_))
        have zlS : l < s.heap.objs.size := Heap.lt_size zol
        have zh3 : A.in1.in1.in1.handled = none := by simp [zh]
        have zz1 : (s.heap.push { cls := .type "set", dict := none, data := .set #[] 0 (.fresh 0 0 (!w.params.followText "set-order")) }).objs.size = s.heap.objs.size + 1 := Heap.size_push ..
        have zneI : l ≠ (s.heap.push { cls := .type "set", dict := none, data := .set #[] 0 (.fresh 0 0 (!w.params.followText "set-order")) }).objs.size := by
          rw [Heap.size_push]; exact Nat.ne_of_lt (Nat.lt_succ_of_lt zlS)
        have zSf : s.heap.objs.size ∉ [(s.heap.push { cls := .type "set", dict := none, data := .set #[] 0 (.fresh 0 0 (!w.params.followText "set-order")) }).objs.size, l] := by
          rw [(Heap.size_push)]; simp only [List.mem_cons, List.mem_singleton, List.not_mem_nil, or_false, not_or]
          exact ⟨Nat.ne_of_lt (Nat.lt_succ_self _), Nat.ne_of_gt zlS⟩
        have zval : ∀ (i : Nat) (v : Value), its[i]? = some v → ∃ k t, ns[i]? = some k ∧ v = .int k t := fun i v zv => by
          have zi : i < ns.length := by rw [← zsz]; exact (Array.getElem?_eq_some_iff.mp zv).1
          obtain ⟨t, e⟩ := PyProof.Rows.IntsAre.int_at zit i v (by rw [Array.getElem?_toList]; exact zv)
          refine ⟨ns[i], t, List.getElem?_eq_getElem zi, ?_⟩
          rw [e, List.getD_eq_getElem?_getD, List.getElem?_eq_getElem zi] <;> rfl
        refine set_update_ints ((Walks.list zh3 _ l zneI its).toS) s.heap.objs.size
          zSf ns zsz zb zval (its.size - 0) 0 _ (by omega) (Nat.zero_le _)
          ⟨⟨_, Heap.get?_push_size _ rfl, rfl, rfl⟩, (zl1.push _)⟩ ?hS0 ?hR
        case hS0 =>
          have zget : ((s.heap.push { cls := .type "set", dict := none, data := .set #[] 0 (.fresh 0 0 (!w.params.followText "set-order")) }).push { cls := .type "list_iterator", data := .fields #[.ref l, .int 0 0] }).get? s.heap.objs.size
              = some { cls := .type "set", dict := none, data := .set #[] 0 (.fresh 0 0 (!w.params.followText "set-order")) } := Heap.get?_push_of_some _ zS
          exact ⟨0, Nat.le_refl 0, setR_new_at zget⟩
        case hR =>
          intro s' c' zm zc' zS'
          obtain ⟨h', g2, d', tk', os'⟩ := (s')
          have e1 : g2 = s.gens := zm.gens
          have e2 : d' = s.drawn := zm.drawn
          have e3 : os' = s.os := zm.os
          subst e1; subst e2; subst e3
          show wpAny _ _ _ _ _ _
          refine wpAny_pure ?_
          show wpAny _ _ (PySem.ret Value.none) _ _ _
          rw [zsz] at zc'
          refine wpAny_pure ⟨rfl, h', tk', c', rfl, zS', zc', fun b o e => ?_⟩
          have b0 : b < s.heap.objs.size := Heap.lt_size e
          have b1 : b ≠ s.heap.objs.size := Nat.ne_of_lt b0
          have b2 : b ≠ (s.heap.push { cls := .type "set", dict := none, data := .set #[] 0 (.fresh 0 0 (!w.params.followText "set-order")) }).objs.size := by
            rw [Heap.size_push]; exact Nat.ne_of_lt (Nat.lt_succ_of_lt b0)
          exact zm.heap b o (by simp only [List.mem_cons, List.mem_singleton, List.not_mem_nil, or_false, not_or]; exact ⟨b1, b2⟩) (Heap.get?_push_of_some _ (Heap.get?_push_of_some _ e))

      · cases r₂ with
        | error e => exact zr2
        | ok fl₂ =>
          cases fl₂ with
          | ret r =>
            obtain ⟨rfl, h', tk, c', rfl, zS', zc', zk'⟩ := zr2
            (repeat (any_goals (first | assumption | wp_step)))
            exact zz _ _ _ zS' zc' zk'
          | _ => exact zr2.elim
    | _ => exact zr.elim

end
end Ty
set_option autoImplicit false
set_option maxHeartbeats 200000
/-! T9c: sorted(set(list of ints)). -/
namespace Ty
open PySem.Spec PyProof.Rows L2 PySem
section
variable {K : PySem.W.Frag} {H : Hp}
theorem rp_ints : ∀ (ns : List Int), RpAll K H (ns.map V.int) (ns.map PyData.int)
  | [] => .nil
  | n :: ns => .cons (.int n) (rp_ints ns)
theorem ints_back : ∀ {xs : List V} {ds : List D} {ns : List Int}, RpAll K H xs ds → intsOf ds = some ns → xs = ns.map V.int ∧ ds = ns.map PyData.int
  | _, _, ns, .nil, h => by
    cases h
    exact ⟨rfl, rfl⟩
  | _, _, ns, .cons (v := v) (d := d) a b, h => by
    cases d <;> try (cases h)
    rename_i i
    unfold intsOf at h
    obtain ⟨ms, e, rfl⟩ := Option.map_eq_some_iff.mp h
    obtain ⟨e1, e2⟩ := ints_back b e
    cases a
    exact ⟨by rw [e1]; rfl, by rw [e2]; rfl⟩
end
theorem sort_perm {l m : List Int} (p : l.Perm m) : (l.mergeSort (PySem.W.dataLe false PyData.int)).map PyData.int = sortD (m.map PyData.int) := by
  have T := PySem.W.sortLe_total (α := Int)
  have e : l.mergeSort (PySem.W.dataLe false PyData.int) = m.mergeSort (PySem.W.dataLe false PyData.int) := by
    have le : ∀ a b : Int, PySem.W.dataLe false PyData.int a b = decide (a ≤ b) := fun a b => by
      rw [PySem.W.dataLe_eq]
      show (!PySem.W.dataLt (.int b) (.int a)) = _
      rw [← ltD_eq]
      show (!decide (b < a)) = decide (a ≤ b)
      by_cases h : b < a
      · rw [decide_eq_true h, decide_eq_false (by omega)]; rfl
      · rw [decide_eq_false h, decide_eq_true (by omega)]; rfl
    have hT : ∀ a b c : Int, PySem.W.dataLe false PyData.int a b = true → PySem.W.dataLe false PyData.int b c = true → PySem.W.dataLe false PyData.int a c = true := fun a b c h1 h2 => by
      rw [le] at *
      simp only [decide_eq_true_eq, decide_eq_true_eq] at *
      omega
    have hO : ∀ a b : Int, (PySem.W.dataLe false PyData.int a b || PySem.W.dataLe false PyData.int b a) = true := fun a b => by
      rw [le, le]
      simp only [Bool.or_eq_true, decide_eq_true_eq]
      omega
    refine List.Perm.eq_of_pairwise (le := fun a b => PySem.W.dataLe false PyData.int a b = true) (fun a b _ _ h1 h2 => ?_) (List.pairwise_mergeSort hT hO l) (List.pairwise_mergeSort hT hO m) ((List.mergeSort_perm l _).trans (p.trans (List.mergeSort_perm m _).symm))
    rw [le] at h1 h2
    simp only [decide_eq_true_eq] at h1 h2
    omega
  rw [e]
  exact sortD_map PyData.int m
/-- set(l) -/
def rSetL (K : PySem.W.Frag) (w : World) : List V → Hp → VK → Prop := fun vs H Q => ∃ (l : Addr) (ns : List Int), vs = [V.ref l] ∧ SqL K H l (ns.map V.int) ∧ ns.length + 1 < scanBound ∧
  ∀ (a : Addr) (c : Nat), c ≤ ns.length → H a = none → Q (.ref a) (upd H a (SetO w a (fun j => decide (j ∈ ns)) c))
/-- sorted(s) -/
def rSortL (w : World) : List V → Hp → VK → Prop := fun vs H Q => ∃ (a : Addr) (S : Int → Bool) (n : Nat), vs = [V.ref a] ∧ H a = some (SetO w a S n) ∧
  ∀ (ns : List Int) (p : Addr), ns.Nodup → (∀ k : Int, k ∈ ns ↔ S k = true) → ns.length = n → n ≤ sizeLine → H p = none → Q (.ref p) (upd H p (.lst ((ns.mergeSort (PySem.W.dataLe false PyData.int)).map V.int)))
section
variable {X : Cx} {Z : Zc} {Y : Yc} {Φ : Fns} {Pp : Pars}
theorem cr_setL (hc : X.calm = true) : CallR X (.type "set") (rSetL X.K X.w) := by
  intro pins; intro s σ H vs us Q I r h
  obtain ⟨l, ns, rfl, hl, hb, q⟩ := h
  obtain ⟨its, rv, pl, hz⟩ := (I.list hl)
  rw [Vals.ref1 r]
  have hi : IntsAre its.toArray.toList ns := (ints_of_vals rv)
  refine set_of_list (P := X.prog) (w := X.w) ns (I.ok.hd hc) pl.isList hi hb fun h' tk c R1 hcn k => ?_
  exact ⟨.ref s.heap.objs.size, upd H s.heap.objs.size (SetO X.w s.heap.objs.size (fun j => decide (j ∈ ns)) c), I.laid (t' := tk) k (Nat.le_refl _) (setO_new R1), rfl, q _ c hcn (I.hok.fresh (Nat.le_refl _))⟩
theorem ints_vals : ∀ {vs : List Value} {ns : List Int}, PySem.W.EachIs (fun v k => ∃ t, v = Value.int k t) vs ns → Vals (ns.map V.int) vs
  | _, _, .nil => .nil
  | _, _, .cons a b => .cons a (ints_vals b)
theorem cr_sortL (hc : X.calm = true) (hu : X.A.units + 70 < cLine) : CallR X (.builtin "sorted") (rSortL X.w) := by
  intro pins; intro s σ H vs us Q I r h
  obtain ⟨a, S, n, rfl, ha, q⟩ := h
  have R := setO_get I ha
  rw [Vals.ref1 r]
  have hn64 : n ≤ sizeLine := by
    obtain ⟨o, es, ep, t, ho, hex, hd, g, nd, hm, hb, hf, hn, hr, hl⟩ := (R)
    rw [← hn, sizeLine_eq]
    exact Nat.le_trans (Nat.le_of_lt hb) (by decide)
  refine sorted_setL R (I.ok.hd hc) hu fun s' p out c ns k g o hp hg hi hs hm hl => ?_
  have hlen : ((ns.mergeSort (PySem.W.dataLe false PyData.int)).map V.int).length ≤ sizeLine := by rw [List.length_map, List.length_mergeSort, hl]; exact hn64
  have hn : H p = none := (I.hok.fresh hp)
  have J : Inv X pins σ (upd H p (.lst ((ns.mergeSort (PySem.W.dataLe false PyData.int)).map V.int))) { s with heap := s'.heap, gens := s'.gens, drawn := s'.drawn, toks := s'.toks } :=
    I.call (ch := []) (Un.laid k hp hn) (I.hok.laid k hp ⟨hlen, out, c, ints_vals hi, hg⟩) (by rw [g]; exact I.bare) (fun _ z => nomatch z)
  have e : (s' = { s with heap := s'.heap, gens := s'.gens, drawn := s'.drawn, toks := s'.toks }) := by
    cases s'
    cases s
    cases o
    rfl
  rw [e]
  exact ⟨.ref p, _, J, rfl, q ns p hs hm hl hn64 hn⟩
theorem nodup_dups : ∀ (n : Nat) (l : List Int), l.length ≤ n → l.eraseDups.Nodup
  | _, [], _ => by simp
  | 0, _ :: _, h => (by simp at h)
  | n + 1, a :: l, h => by
    rw [List.eraseDups_cons]
    refine List.nodup_cons.mpr ⟨fun z => ?_, nodup_dups n _ (Nat.le_trans (List.length_filter_le _ _) (Nat.le_of_succ_le_succ h))⟩
    rw [List.mem_eraseDups, List.mem_filter] at z
    simp at z
theorem perm_dups {l ns : List Int} (hs : l.Nodup) (hm : ∀ k : Int, k ∈ l ↔ decide (k ∈ ns) = true) : l.Perm ns.eraseDups :=
  (List.perm_ext_iff_of_nodup hs (nodup_dups _ ns (Nat.le_refl _))).mpr fun k => by rw [hm, List.mem_eraseDups, decide_eq_true_eq]
theorem m_sset {e : Expr} {t : Ex} {p p2 pos pos2 : Pos} (c : Cd X Z) (ha : eOs X Z [e] (evOs Φ Pp (.cons t .nil))) (hm1 : X.mg "sorted" = none) (hm2 : X.mg "set" = none) (hg1 : Gl X "sorted" := by rfl) (hg2 : Gl X "set" := by rfl)
    (he : starEach [e] X.env = (false, eval e X.env) :: starEach [] X.env := by rfl) (he2 : starEach [Expr.Call (.Name "set" p2) [e] [] pos2] X.env = (false, eval (Expr.Call (.Name "set" p2) [e] [] pos2) X.env) :: starEach [] X.env := by rfl) :
    eM X Z (.Call (.Name "sorted" p) [.Call (.Name "set" p2) [e] [] pos2] [] pos) (ev Φ Pp (.sset t)) := fun Y o =>
  pe_imp (pe_callB (cr_sortL c.calm c.units) hg1 hm1 (by decide +kernel) (pa_cons (pe_callTy (cr_setL c.calm) hg2 hm2 (by decide +kernel) (ha Y o) (by decide) (by decide) he rfl) pa_nil he2) (by decide) (by decide) he2 rfl) fun σ H Q h => by
    rw [ev] at h
    obtain ⟨ρ, r, ρ', R, e1, q⟩ := tM_of h
    obtain ⟨b, ρ1, e2, e3⟩ := bnd_ok e1
    have e4 : evOs Φ Pp (.cons t .nil) ρ = .ok [b] ρ1 := by
      rw [evOs, evOs]
      unfold bnd
      rw [e2]; rfl
    refine tOs_mk R e4 fun vs H1 P1 ra => ?_
    split at e3
    · rename_i xs e5
      split at e3
      · rename_i ns e6
        split at e3
        · rename_i hlen
          cases e3
          simp only [decide_eq_true_eq] at hlen
          cases ra with
          | cons ra rb =>
            cases rb
            obtain ⟨a, ws, rfl, h1, r1⟩ := (top_of P1.rep ra e5).list
            obtain ⟨rfl, rfl⟩ := ints_back r1 e6
            refine ⟨a, ns, rfl, (c.k o) ▸ h1, by unfold scanBound; omega, fun a2 cc hcn hn => ?_⟩
            refine ⟨a2, _, _, rfl, upd_same, fun l p hs hm hl hz hp => ?_⟩
            have P2 : Post Y _ _ σ H1 (upd H1 a2 (SetO X.w a2 (fun j => decide (j ∈ ns)) cc)) := Post.new P1.rep hn (c.t o)
            have PP := P1.trans P2
            refine newL (c.t o) PP.rep (Q := Q) (ds := sortD (ns.eraseDups.map PyData.int)) (fun v H' P3 r3 => q v H' (PP.trans P3) (r3.back PP.none)) ?_ p hp
            rw [← sort_perm (perm_dups hs hm)]
            exact rp_ints _
        · cases e3
      · cases e3
    · cases e3
end
end Ty
set_option autoImplicit false
set_option maxHeartbeats 200000
/-! T10: what a law's walk leans on: contexts within blocks and generators, calls, the tables. -/
namespace Ty
open PySem PySem.Spec PyProof.Rows L2 GxR
/-- the function object that stands behind the top under x -/
def fdOf (K : PySem.W.Frag) (x : Str) : FuncData := match K.lookup (He.ga K x) with
  | some ⟨_, _, .func fd, _⟩ => fd
  | _ => PySem.W.fnOf x x (defArgs (.Pass ⟨0, 0, 0, 0⟩)) [] (defScope (.Pass ⟨0, 0, 0, 0⟩)) .none .none .none .none none .none .none
theorem fu_of {K : PySem.W.Frag} {x : Str} {st : Stmt} (h : ∃ fd, FunD K x x (defArgs st) (defBody st) (defScope st) [] [] (He.fAd K (x, none)) fd) : Fun K x x st (He.ga K x) (fdOf K x) := by
  obtain ⟨fd, F⟩ := h
  have G := He5.fun_of F
  obtain ⟨oc, od, kV, doc, pm, an, cdv, ct, osl, e, l, c⟩ := G.ex
  have e2 : fdOf K x = fd := by
    unfold fdOf
    have l' : K.lookup (He.ga K x) = some ⟨oc, od, .func fd, osl⟩ := l
    rw [l']
  rw [e2]
  exact G
/-- a def that is called by its name -/
structure Cb (K : PySem.W.Frag) (mg : Str → Option Value) (x : Str) (ps : List Str) : Prop where
  mg : mg x = some (.ref (He.ga K x))
  kp : PySem.W.keepIn K (.ref (He.ga K x)) = true
  bi : Binds K (fdOf K x) ps []
abbrev Ok1 (P : Program) (w : World) (K : PySem.W.Frag) (mg : Str → Option Value) (base : Heap) (tb : Hp → Prop) (tab : Str → Option Df) (Pp : Pars) (k l : Nat) (x : Str) (ps : List Str) : Prop :=
  FnG P w K mg base l (He.ga K x) (fdOf K x) ps (spT ⟨K, tb⟩ (run tab Pp k x))

/-! ### constants and written dicts -/
def WrK (K : PySem.W.Frag) (mg : Str → Option Value) (x : Str) (d : D) : Prop := ∃ v u, mg x = some u ∧ RelV v u ∧ Rp K (fun _ => none) v d
def KTabK (K : PySem.W.Frag) (mg : Str → Option Value) (w : World) (x : Str) (kvs : List (Str × D)) : Prop := ∃ a, mg x = some (.ref a) ∧ (a == sysModules) = false ∧
  ∀ z : Str, ∃ es n, K.lookup a = some ⟨.type "dict", none, .dict es n, #[]⟩ ∧ PySem.W.KeysLit w.params es.toList ∧ ∃ o, PySem.W.nsIn K a z = some o ∧
    (match kvs.lookup z with
      | none => o = none
      | some d => ∃ u v, o = some u ∧ RelV v u ∧ Rp K (fun _ => none) v d)
theorem blk_mk {N : List Str} {sc scope : Scope} {own : List (Str × Nat)} (kind : scope.kind = .function := by rfl) (h1 : decide (∀ y ∈ scope.names, scope.names.lookup y.1 = some y.2) = true := by kernel_rfl) (h2 : decide (∀ p ∈ own, N[p.2]? = some p.1) = true := by kernel_rfl)
    (h3 : decide (∀ y ∈ scope.names, y.2 = .free → sc.names.lookup y.1 = some .cell ∨ sc.names.lookup y.1 = some .free) = true := by kernel_rfl) (h4 : decide (∀ y ∈ scope.names, y.2 = .local ∨ y.2 = .cell → y.1 ∈ own.map (·.1) ∨ y.1 ∉ N) = true := by kernel_rfl) : BlkOk N sc scope own :=
  ⟨kind, of_decide_eq_true h1, of_decide_eq_true h2, of_decide_eq_true h3, of_decide_eq_true h4⟩
theorem fs_mk {N P : List Str} {sc : Scope} (kind : sc.kind = .function := by kernel_rfl) (co : sc.isCoroutine = false := by kernel_rfl) (gen : sc.isGenerator = false := by kernel_rfl) (nd : decide N.Nodup = true := by kernel_rfl) (pre : N.take P.length = P := by kernel_rfl)
    (par : decide (∀ x ∈ P, sc.names.lookup x = some .local ∨ sc.names.lookup x = some .cell) = true := by kernel_rfl) (nf : decide (∀ y ∈ sc.names, y.2 ≠ .free) = true := by kernel_rfl) : FnScope N P sc :=
  ⟨kind, co, gen, of_decide_eq_true nd, pre, of_decide_eq_true par, of_decide_eq_true nf⟩

/-! ### the code tables -/
def tbC (cs : List (Addr × Addr)) : Hp → Prop := fun H => ∀ p ∈ cs, TabG H p.2
theorem tbC_ok (cs : List (Addr × Addr)) : TbOk (tbC cs) := fun H H' h k p hp => by
  obtain ⟨ps, e, t⟩ := h p hp
  exact ⟨ps, k _ _ e (.inl fun z => z _ rfl), t⟩

section
variable {X : Cx} {Z : Zc} {Φ : Fns} {Pp : Pars} {s : Shared} {H : Hp} {scope : Scope} {e1 : Expr} {gs : List Comprehension}
theorem Cd.blk (c : Cd X Z) {cenv : PySem.Env} {fp : List Addr} : Cd (X.blk s H scope cenv fp) Z := ⟨c.hK, c.ht, c.calm, c.units, c.guards, c.nd⟩
theorem Cd.gen {k : Nat} {p : Pos} {it ga : Addr} {genv : PySem.Env} {fp : List Addr} {go : Obj} (c : Cd X Z) (r : Room (k + 1) X.A) : Cd (Cxg X s H (gA X.A (.GeneratorExp e1 gs scope p) it genv) genv fp ga go) Z :=
  ⟨c.hK, c.ht, c.calm, by
    have q := (room_gA (e1 := e1) (gs := gs) (sc := scope) (p := p) (it := it) (genv := genv) r).un
    show (gA X.A (.GeneratorExp e1 gs scope p) it genv).units + 70 < cLine
    omega, guards_gA c.guards, c.nd⟩
/-- an environment with this scope -/
def esc (sc : Scope) (e : PySem.Env) : PySem.Env := { e with scope := sc }
theorem esc_of {sc : Scope} {e : PySem.Env} (h : e.scope = sc) : e = esc sc e := by
  cases e
  cases h
  rfl
variable {tgt : Tg} {ts : Exs} {t : Ex} {it : It} {as : Ars}
theorem gcd_mk {K : PySem.W.Frag} {cs : List (Addr × Addr)} {cp : Addr × Addr} {k : Nat} (hp : cp ∈ cs) (T : TabB X.base X.mg cp.1 cp.2) (hc : X.env.code = .ref cp.1) (r : Room k X.A) : Gcd X ⟨K, tbC cs⟩ cp.1 cp.2 :=
  ⟨T, hc, r.depth, r.hd, fun H h => h cp hp, fun H H2 h g q hq => by
    by_cases e : q.2 = cp.2
    · rw [e]; exact g.1
    · obtain ⟨ps, e1, e2⟩ := h q hq
      exact ⟨ps, (g.2 _ e).trans e1, e2⟩⟩
theorem Gcd.blk {cc P C : Addr} {cl : List (Str × Addr)} {fp : List Addr} (g : Gcd X Z cc P) : Gcd (X.blk s H scope (compEnvC scope cl C X.env) fp) Z cc P := ⟨g.TB, g.code, g.dp, g.hd, g.tab, g.grow⟩

/-! ### generator expressions, their frame's scope written out -/
section
variable {cc P : Addr} {elt iter tg : Expr} {ifs : List Expr} {p pos gpos : Pos} {own : List (Str × Nat)}
theorem m_allS (c : Cd X Z) (gc : Gcd X Z cc P) (hi : eI X Z tg iter (evI Φ Pp it)) (hm : X.mg "all" = none) (ok : BlkOk X.N X.env.scope scope own)
    (hg : ∀ (s : Shared) (H : Hp) (it : Addr) (genv : PySem.Env) (fp : List Addr) (ga : Addr) (go : Obj), eG (Cxg X s H (gA X.A (.GeneratorExp elt [⟨tg, iter, ifs, 0⟩] scope gpos) it (esc scope genv)) (esc scope genv) fp ga go) Z tg tgt)
    (ht : ∀ (s : Shared) (H : Hp) (it : Addr) (genv : PySem.Env) (fp : List Addr) (ga : Addr) (go : Obj), eTs (Cxg X s H (gA X.A (.GeneratorExp elt [⟨tg, iter, ifs, 0⟩] scope gpos) it (esc scope genv)) (esc scope genv) fp ga go) Z ifs (evC Φ Pp ts))
    (he : ∀ (s : Shared) (H : Hp) (it : Addr) (genv : PySem.Env) (fp : List Addr) (ga : Addr) (go : Obj), eM (Cxg X s H (gA X.A (.GeneratorExp elt [⟨tg, iter, ifs, 0⟩] scope gpos) it (esc scope genv)) (esc scope genv) fp ga go) Z elt (ev Φ Pp t))
    (hco : scope.isCoroutine = false := by rfl) (hnc : ∀ y ∈ scope.names, y.2 ≠ .cell := by decide +kernel) (hdot : scope.names.lookup (".0" : Str) = some NameKind.local := by rfl)
    (hgl : Gl X "all" := by rfl) (hn : ∀ i ∈ tgN tgt, i ∈ own.map (·.2) := by decide) (hs : ∀ v, genFold iter X.env v = pure v := by intro _; rfl)
    (hst : starEach [.GeneratorExp elt [⟨tg, iter, ifs, 0⟩] scope gpos] X.env = (false, eval (.GeneratorExp elt [⟨tg, iter, ifs, 0⟩] scope gpos) X.env) :: starEach [] X.env := by rfl) :
    eM X Z (.Call (.Name "all" p) [.GeneratorExp elt [⟨tg, iter, ifs, 0⟩] scope gpos] [] pos) (ev Φ Pp (.gen .all (own.map (·.2)) tgt it ts t)) :=
  m_all c gc hco ok hnc hdot hi (fun s H it genv fp ga go h => by rw [esc_of h]; exact hg s H it genv fp ga go) (fun s H it genv fp ga go h => by rw [esc_of h]; exact ht s H it genv fp ga go) (fun s H it genv fp ga go h => by rw [esc_of h]; exact he s H it genv fp ga go) hm (by decide +kernel) hgl hn hs hst
theorem m_anyS (c : Cd X Z) (gc : Gcd X Z cc P) (hi : eI X Z tg iter (evI Φ Pp it)) (hm : X.mg "any" = none) (ok : BlkOk X.N X.env.scope scope own)
    (hg : ∀ (s : Shared) (H : Hp) (it : Addr) (genv : PySem.Env) (fp : List Addr) (ga : Addr) (go : Obj), eG (Cxg X s H (gA X.A (.GeneratorExp elt [⟨tg, iter, ifs, 0⟩] scope gpos) it (esc scope genv)) (esc scope genv) fp ga go) Z tg tgt)
    (ht : ∀ (s : Shared) (H : Hp) (it : Addr) (genv : PySem.Env) (fp : List Addr) (ga : Addr) (go : Obj), eTs (Cxg X s H (gA X.A (.GeneratorExp elt [⟨tg, iter, ifs, 0⟩] scope gpos) it (esc scope genv)) (esc scope genv) fp ga go) Z ifs (evC Φ Pp ts))
    (he : ∀ (s : Shared) (H : Hp) (it : Addr) (genv : PySem.Env) (fp : List Addr) (ga : Addr) (go : Obj), eM (Cxg X s H (gA X.A (.GeneratorExp elt [⟨tg, iter, ifs, 0⟩] scope gpos) it (esc scope genv)) (esc scope genv) fp ga go) Z elt (ev Φ Pp t))
    (hco : scope.isCoroutine = false := by rfl) (hnc : ∀ y ∈ scope.names, y.2 ≠ .cell := by decide +kernel) (hdot : scope.names.lookup (".0" : Str) = some NameKind.local := by rfl)
    (hgl : Gl X "any" := by rfl) (hn : ∀ i ∈ tgN tgt, i ∈ own.map (·.2) := by decide) (hs : ∀ v, genFold iter X.env v = pure v := by intro _; rfl)
    (hst : starEach [.GeneratorExp elt [⟨tg, iter, ifs, 0⟩] scope gpos] X.env = (false, eval (.GeneratorExp elt [⟨tg, iter, ifs, 0⟩] scope gpos) X.env) :: starEach [] X.env := by rfl) :
    eM X Z (.Call (.Name "any" p) [.GeneratorExp elt [⟨tg, iter, ifs, 0⟩] scope gpos] [] pos) (ev Φ Pp (.gen .any (own.map (·.2)) tgt it ts t)) :=
  m_any c gc hco ok hnc hdot hi (fun s H it genv fp ga go h => by rw [esc_of h]; exact hg s H it genv fp ga go) (fun s H it genv fp ga go h => by rw [esc_of h]; exact ht s H it genv fp ga go) (fun s H it genv fp ga go h => by rw [esc_of h]; exact he s H it genv fp ga go) hm (by decide +kernel) hgl hn hs hst
theorem m_sumS (c : Cd X Z) (gc : Gcd X Z cc P) (hi : eI X Z tg iter (evI Φ Pp it)) (hm : X.mg "sum" = none) (ok : BlkOk X.N X.env.scope scope own)
    (hg : ∀ (s : Shared) (H : Hp) (it : Addr) (genv : PySem.Env) (fp : List Addr) (ga : Addr) (go : Obj), eG (Cxg X s H (gA X.A (.GeneratorExp elt [⟨tg, iter, ifs, 0⟩] scope gpos) it (esc scope genv)) (esc scope genv) fp ga go) Z tg tgt)
    (ht : ∀ (s : Shared) (H : Hp) (it : Addr) (genv : PySem.Env) (fp : List Addr) (ga : Addr) (go : Obj), eTs (Cxg X s H (gA X.A (.GeneratorExp elt [⟨tg, iter, ifs, 0⟩] scope gpos) it (esc scope genv)) (esc scope genv) fp ga go) Z ifs (evC Φ Pp ts))
    (he : ∀ (s : Shared) (H : Hp) (it : Addr) (genv : PySem.Env) (fp : List Addr) (ga : Addr) (go : Obj), eM (Cxg X s H (gA X.A (.GeneratorExp elt [⟨tg, iter, ifs, 0⟩] scope gpos) it (esc scope genv)) (esc scope genv) fp ga go) Z elt (ev Φ Pp t))
    (hco : scope.isCoroutine = false := by rfl) (hnc : ∀ y ∈ scope.names, y.2 ≠ .cell := by decide +kernel) (hdot : scope.names.lookup (".0" : Str) = some NameKind.local := by rfl)
    (hgl : Gl X "sum" := by rfl) (hn : ∀ i ∈ tgN tgt, i ∈ own.map (·.2) := by decide) (hs : ∀ v, genFold iter X.env v = pure v := by intro _; rfl)
    (hst : starEach [.GeneratorExp elt [⟨tg, iter, ifs, 0⟩] scope gpos] X.env = (false, eval (.GeneratorExp elt [⟨tg, iter, ifs, 0⟩] scope gpos) X.env) :: starEach [] X.env := by rfl) :
    eM X Z (.Call (.Name "sum" p) [.GeneratorExp elt [⟨tg, iter, ifs, 0⟩] scope gpos] [] pos) (ev Φ Pp (.gen .sum (own.map (·.2)) tgt it ts t)) :=
  m_sum c gc hco ok hnc hdot hi (fun s H it genv fp ga go h => by rw [esc_of h]; exact hg s H it genv fp ga go) (fun s H it genv fp ga go h => by rw [esc_of h]; exact ht s H it genv fp ga go) (fun s H it genv fp ga go h => by rw [esc_of h]; exact he s H it genv fp ga go) hm (by decide +kernel) hgl hn hs hst
end

/-! ### calls -/
section
variable {e : Expr} {es : List Expr} {p pos : Pos} {k : Nat} {x : Str} {ps ks : List Str} {kws : List Keyword} {n : Nat} {π : List Nat} {ks' : Ars}
theorem m_callC (c : Cd X Z) (F : FnG X.prog X.w X.K X.mg X.base k (He.ga X.K x) (fdOf X.K x) ps (spT Z (Φ x))) (hr : Room k X.A) (b : Cb X.K X.mg x ps) (ha : eA X Z (e :: es) (evA Φ Pp as)) (hg : Gl X x := by rfl) (hdb : (x == ("__debug__" : Str)) = false := by decide)
    (he : starEach (e :: es) X.env = (false, eval e X.env) :: starEach es X.env := by rfl)
    (hpl : (backTo pos (starEach es X.env)).any (·.1) = false := by rfl) : eM X Z (.Call (.Name x p) (e :: es) [] pos) (ev Φ Pp (.call x as)) := m_call c F hr b.mg b.kp b.bi ha hg hdb he hpl
theorem m_callC0 (c : Cd X Z) (F : FnG X.prog X.w X.K X.mg X.base k (He.ga X.K x) (fdOf X.K x) ps (spT Z (Φ x))) (hr : Room k X.A) (b : Cb X.K X.mg x ps) (hg : Gl X x := by rfl)
    (hdb : (x == ("__debug__" : Str)) = false := by decide) : eM X Z (.Call (.Name x p) [] [] pos) (ev Φ Pp (.call x .nil)) := m_call0 c F hr b.mg b.kp b.bi hg hdb
theorem m_callCK0 (c : Cd X Z) (F : FnG X.prog X.w X.K X.mg X.base k (He.ga X.K x) (fdOf X.K x) ps (spT Z (Φ x))) (hr : Room k X.A) (b : Cb X.K X.mg x ps) (hb : KwB X.K (fdOf X.K x) ps ks 0 π) (hkw : eK X Z kws (evA Φ Pp ks')) (hn : ks.length = arLen ks' := by rfl)
    (hg : Gl X x := by rfl) (hdb : (x == ("__debug__" : Str)) = false := by decide) (hall : (backToKw pos (keywordEach kws X.env)).all (·.1.isSome) = true := by rfl) (hks : (backToKw pos (keywordEach kws X.env)).filterMap (·.1) = ks := by rfl)
    (hpl : ((backTo pos (starEach [] X.env)).any (·.1) || (backToKw pos (keywordEach kws X.env)).any (·.1.isNone)) = false := by rfl) : eM X Z (.Call (.Name x p) [] kws pos) (ev Φ Pp (.callK x .nil ks' π)) :=
  m_callK0 c F hr b.mg b.kp hb hkw hn hg hdb hall hks hpl
theorem m_callCK (c : Cd X Z) (F : FnG X.prog X.w X.K X.mg X.base k (He.ga X.K x) (fdOf X.K x) ps (spT Z (Φ x))) (hr : Room k X.A) (b : Cb X.K X.mg x ps) (hb : KwB X.K (fdOf X.K x) ps ks n π) (ha : eA X Z (e :: es) (evA Φ Pp as)) (hkw : eK X Z kws (evA Φ Pp ks')) (hn : ks.length = arLen ks' := by rfl) (hn2 : n = arLen as := by rfl)
    (hg : Gl X x := by rfl) (hdb : (x == ("__debug__" : Str)) = false := by decide) (hall : (backToKw pos (keywordEach kws X.env)).all (·.1.isSome) = true := by rfl) (hks : (backToKw pos (keywordEach kws X.env)).filterMap (·.1) = ks := by rfl) (he : starEach (e :: es) X.env = (false, eval e X.env) :: starEach es X.env := by rfl)
    (hpl : ((backTo pos (starEach (e :: es) X.env)).any (·.1) || (backToKw pos (keywordEach kws X.env)).any (·.1.isNone)) = false := by rfl) : eM X Z (.Call (.Name x p) (e :: es) kws pos) (ev Φ Pp (.callK x as ks' π)) :=
  m_callK c F hr b.mg b.kp hb ha hkw hn hn2 hg hdb hall hks he hpl
end
end
theorem fun_kwb {K : PySem.W.Frag} {x qual : Str} {st : Stmt} {f : Addr} {fd : FuncData} {ps ks : List Str} {n : Nat} {π : List Nat} (F : Fun K x qual st f fd)
    (h : ∀ (kV doc pm : Value) (an : Option Addr) (cdv ct : Value) (us ws : List Value), us.length = n → ws.length = ks.length → bindArgs (PySem.W.fnOf x qual (defArgs st) (defBody st) (defScope st) .none kV doc pm an cdv ct) ⟨us, ks.zip ws⟩ = pure (ps.zip (π.map fun j => (us ++ ws).getD j .none))) : KwB K fd ps ks n π := by
  obtain ⟨oc, od, kV, doc, pm, an, cdv, ct, osl, rfl, lk, hcd⟩ := (F.ex)
  exact fun s us ws _ h1 h2 => .of_eq (h kV doc pm an cdv ct us ws h1 h2)
/-- a def of the table, by its walk; its own code is known -/
theorem def_okC {P : Program} {w : World} {K : PySem.W.Frag} {mg : Str → Option Value} {base : Heap} {x qual : Str} {st : Stmt} {f : Addr} {fd : FuncData} {N ps : List Str} {k l : Nat} {tb : Hp → Prop} {tab : Str → Option Df} {Pp : Pars} {nm : Str} {d : Df} (F : Fun K x qual st f fd) (S : FnScope N ps (defScope st))
    (hd : tab nm = some d) (hN : N.length = d.m) (hm : d.n ≤ d.m) (hp : ps.length = d.n) (ht : TbOk tb)
    (hb : ∀ (cdv : Value) (A : Around) (outer : List PySem.Env) (s : Shared) (H : Hp), fd.code = cdv → Room l (A.deeper (envOfC qual (defScope st) s.heap.objs.size f cdv)) → Cd (cxOf CX0 P w K mg base N qual (defScope st) f cdv A outer s H E0).nox ⟨K, tb⟩ →
      eSs (cxOf CX0 P w K mg base N qual (defScope st) f cdv A outer s H E0).nox ⟨K, tb⟩ (defBody st) (exs (run tab Pp k) Pp d.body)) :
    FnG P w K mg base (l + 1) f fd ps (spT ⟨K, tb⟩ (run tab Pp (k + 1) nm)) := by
  obtain ⟨oc, od, kV, doc, pm, an, cdv0, ct, osl, rfl, hf, hco⟩ := F.ex
  refine fnG_ofC (k := l) rfl hf hco S (fun vs H Q h => (body_ok hd hN hm h).1.trans hp.symm) fun A outer s H vs Q hr hg h => ?_
  obtain ⟨_, Y, o, t⟩ := body_ok hd hN hm h
  have un : (A.deeper (envOfC qual (defScope st) s.heap.objs.size f cdv0)).units + 70 < cLine := by
    have q := hr.un
    omega
  exact ⟨_, hb cdv0 A outer s H rfl hr ⟨rfl, ht, rfl, un, hg, S.nd⟩ Y o, t⟩
end Ty
set_option autoImplicit false
set_option maxHeartbeats 2100000
/-! T11: a law's end over FnG. -/
namespace Ty
open PySem PySem.Spec PyProof.Rows L2 GxR LamX
theorem law_callG {P : Program} {w : World} {K : PySem.W.Frag} {mg mb : Str → Option Value} {k : Nat} {fa a : Addr} {tbs : List (Addr × Addr)} {fd : FuncData} {x : Str} {sp : Spt} {t₁ : Shared} {vs : List Value} {ns : List Int}
    (KX : K.In t₁.heap) (hns : t₁.heap.Ns mainGlobals mg) (zb : t₁.heap.Ns builtinsNs mb) (hbb : ∀ x : Str, x ≠ "__name__" → mb x = bootBuiltins x) (hlim : t₁.heap.NoLimit) (hg : t₁.gens = #[])
    (hT : ∀ p ∈ tbs, t₁.heap.get? p.2 = some { cls := .none, data := .fields #[] }) (nT : ∀ p ∈ tbs, K.lookup p.2 = none) (cHd : ∀ p ∈ tbs, PySem.W.CodeHd t₁.heap p.1 p.2)
    (hbm : ∃ (bmo : Addr) (ob : Obj), mg "__builtins__" = some (.ref bmo) ∧ bmo ≠ builtinsNs ∧ t₁.heap.get? bmo = some ob ∧ ob.cls = .type "module" ∧ ob.dict = some builtinsNs ∧ ob.data = .plain)
    (ha : t₁.heap.get? a = some { cls := .type "list", data := .seq vs.toArray }) (hi : IntsAre vs ns) (hl : ns.length ≤ sizeLine) (hr : Room k callerA)
    (F : ∀ base : Heap, K.In base → base.Ns mainGlobals mg → (∀ p ∈ tbs, GxR.TabB base mg p.1 p.2) → FnG P w K mg base k fa fd [x] sp) (hbind : ∀ (s : Shared) (u : Value), BindsTo s fd ⟨[u], []⟩ [(x, u)])
    (hsp : ∀ Hz : Hp, (∀ p ∈ tbs, Hz p.2 = some (.tbl #[])) → SqL K Hz a (ns.map V.int) → sp [.ref a] Hz (fun v _ => v = .bl true)) :
    codeAny (model P w) callerA (.call (.ref fa) ⟨[.ref a], []⟩) (fun r s' => r = .ok (.ret (.bool true)) ∧ OldK t₁.heap s'.heap ∧ s'.os = t₁.os ∧ AllBare s'.gens) t₁ := by
  have rv := vals_ints hi
  have vLen := hi.length
  have tbE : ∀ b : Addr, b ∈ tbs.map (·.2) → t₁.heap.get? b = some { cls := .none, data := .fields #[] } := fun b zb => by
    obtain ⟨p, zp, e⟩ := List.mem_map.mp zb
    rw [← e]
    exact hT p zp
  have naT : a ∉ tbs.map (·.2) := fun z => by
    have qq := tbE a z
    rw [ha] at qq
    have y' : Data.seq vs.toArray _ = Data.fields #[] := congrArg Obj.data (Option.some.inj qq)
    cases y'
  have inT : ∀ p ∈ tbs, p.2 ∈ tbs.map (·.2) := fun p zp => List.mem_map.mpr ⟨p, zp, rfl⟩
  
  have main : ∀ Hz : Hp, (∀ p ∈ tbs, Hz p.2 = some (.tbl #[])) → (∀ b, Hz b = none ∨ b ∈ tbs.map (·.2) ∨ ∃ o xs, Hz b = some (.frz o (.lst xs))) → SqL K Hz a (ns.map V.int) → HOk P w Hz t₁.heap → (∀ b, Hz b ≠ none → b = a ∨ b ∈ tbs.map (·.2)) → (Hz a ≠ none → K.lookup a = none) →
      codeAny (model P w) callerA (.call (.ref fa) ⟨[.ref a], []⟩) (fun r s' => r = .ok (.ret (.bool true)) ∧ OldK t₁.heap s'.heap ∧ s'.os = t₁.os ∧ AllBare s'.gens) t₁ := by
    intro Hz zH hO zS zok hA zK
    have bOf : ∀ {b : Addr} {o : Obj}, t₁.heap.get? b = some o → Hz b = none → (hidT t₁.heap Hz).get? b = some o := fun e n => hidT_get e n
    have dNo : ∀ {b : Addr} {o : Obj}, t₁.heap.get? b = some o → (∀ vs n, o.data ≠ .seq vs n) → o.data ≠ .fields #[] → Hz b = none := fun {b o} e h1 h2 => by
      cases qq : Hz b with
      | none => rfl
      | some u =>
        rcases hA b (by rw [qq]; simp) with e' | e'
        · rw [e', ha] at e
          cases e
          exact (h1 _ _ rfl).elim
        · rw [tbE b e'] at e
          cases e
          exact (h2 rfl).elim
    have aNo : ∀ {b : Addr} {o : Obj} {es : Array DictEntry} {ep : Nat}, t₁.heap.get? b = some o → o.data = .dict es ep → Hz b = none := fun {b o es ep} e d => by
      refine dNo e (fun vs n z => ?_) fun z => ?_
      · rw [d] at z
        cases z
      · rw [d] at z
        cases z
    have kNs : ∀ {b : Addr} {m : Str → Option Value}, t₁.heap.Ns b m → (hidT t₁.heap Hz).Ns b m := fun {b m} ⟨o, es, ep, e, d, r⟩ => ⟨o, es, ep, bOf e (aNo e d), d, r⟩
    have bIn : K.In (hidT t₁.heap Hz) := fun b o e => bOf (KX b o e) (by
      cases qq : Hz b with
      | none => rfl
      | some u =>
        rcases hA b (by rw [qq]; simp) with e' | e'
        · rw [e'] at e qq
          rw [zK (by rw [qq]; simp)] at e
          cases e
        · obtain ⟨p, zp, ep⟩ := List.mem_map.mp e'
          rw [← ep, nT p zp] at e
          cases e)
    have bMod : L2.Mod K mg (hidT t₁.heap Hz) := ⟨bIn, kNs hns, ⟨mb, kNs zb, hbb⟩, let ⟨mc, h1, h2⟩ := hlim; ⟨mc, kNs h1, h2⟩⟩
    have bTab : ∀ p ∈ tbs, GxR.TabB (hidT t₁.heap Hz) mg p.1 p.2 := fun p zp => by
      have hTp := hT p zp
      refine ⟨?_, ?_, fun z => ?_⟩
      · obtain ⟨o, us, file, tf, flags, tg, inF, text, tt, d1, r1, r2, r3, r4, r5, r6, r7, r8, hne⟩ := cHd p zp
        refine ⟨o, us, file, tf, flags, tg, inF, text, tt, bOf d1 (dNo d1 (fun vs n z => ?_) fun z => ?_), r1, r2, r3, r4, r5, r6, r7, r8, hne⟩
        · rw [r2] at z
          cases z
        · rw [r2] at z
          cases z
          simp at r3
      · obtain ⟨bmo, ob, b1, b2, b3, b4, b5, b6⟩ := hbm
        have nG : bmo ≠ mainGlobals := fun qq => by
          obtain ⟨o, es, ep, e, hd, _⟩ := id hns
          rw [qq, e] at b3
          cases b3
          rw [hd] at b6
          cases b6
        have nP : bmo ≠ p.2 := fun qq => by
          rw [qq, hTp] at b3
          cases b3
          cases b6
        refine ⟨bmo, ob, b1, b2, nG, nP, bOf b3 (dNo b3 (fun vs n z => ?_) fun z => ?_), b4, b5, b6⟩
        · rw [b6] at z
          cases z
        · rw [b6] at z
          cases z
      · obtain ⟨o, es, ep, e, hd, _⟩ := id hns
        rw [z, hTp] at e
        cases e
        cases hd
    have env0 : Env0 P w K mg (hidT t₁.heap Hz) callerA [] t₁ Hz := ⟨rfl, bMod, fun b o e => of_hidT e, Nat.le_of_eq (hidT_size _ _), trivial, fun b zb => absurd (show b ∈ ([] : List Addr) from zb) (by simp), zok, .of_eq hg⟩
    refine codeAny_mono ((F _ bIn (kNs hns) bTab).run callerA [] t₁ Hz ⟨[.ref a], []⟩ [.ref a] [.ref a] _ hr rfl env0 (hbind t₁ (.ref a)) (.cons rfl .nil) (hsp Hz zH zS)) fun r s' h => ?_
    cases r with
    | error e => exact False.elim h
    | ok fl =>
      cases fl with
      | next => exact False.elim h
      | brk => exact False.elim h
      | cont => exact False.elim h
      | ret u =>
        obtain ⟨v, H', os, bare, un, hok', r', qq⟩ := h
        have q' : v = .bl true := qq
        subst q'
        obtain rfl : u = Value.bool true := id r'
        have kept : ∀ b o, b ∉ tbs.map (·.2) → t₁.heap.get? b = some o → s'.heap.get? b = some o := fun b o nb e => by
          cases qq : Hz b with
          | none => exact un.keep b o e qq (by intro z; exact absurd (show b ∈ ([] : List Addr) from z) (by simp)) (by simp)
          | some u =>
            rcases hO b with z | z | ⟨ob, ws, z⟩
            · rw [qq] at z; cases z
            · exact absurd z nb
            · have z2 := un.frzs b ob _ z
              obtain ⟨d1, _⟩ := zok b _ z
              obtain ⟨e2, _⟩ := hok' b _ z2
              rw [e] at d1; cases d1
              exact e2
        have grew : ∀ p ∈ tbs, ∃ mo : Array Value, s'.heap.get? p.2 = some { cls := .none, data := .fields mo } := fun p zp => by
          obtain ⟨mo, z⟩ := un.tbls p.2 #[] (zH p zp)
          exact ⟨_, hok' p.2 _ z⟩
        refine ⟨rfl, ⟨fun b u0 e => ?_, fun b o e => ?_⟩, os, bare⟩
        · by_cases zb : b ∈ tbs.map (·.2)
          · obtain ⟨p, zp, ep⟩ := List.mem_map.mp zb
            obtain ⟨mo, hm⟩ := grew p zp
            rw [← ep] at e ⊢
            rw [hT p zp] at e
            cases e
            exact .inr (.inl ⟨((cHd p zp).tab (hT p zp)).isCodeTable, rfl, #[], mo, rfl, by rw [Array.empty_append]; exact hm⟩)
          · exact .inl (kept b u0 zb e)
        · by_cases zb : b ∈ tbs.map (·.2)
          · obtain ⟨p, zp, ep⟩ := List.mem_map.mp zb
            obtain ⟨mo, hm⟩ := grew p zp
            rw [← ep]
            exact ⟨_, hm⟩
          · exact ⟨o, kept b o zb e⟩
  cases hk : K.lookup a with
  | some o =>
    have e := KX a o hk
    rw [ha] at e
    cases e
    refine main (fun b => if b ∈ tbs.map (·.2) then some (.tbl #[]) else none) (fun p zp => if_pos (inT p zp)) (fun b => ?_) (.inr ⟨_, vs.toArray, _, hk, rfl, rfl, rfl, by rw [List.size_toArray, vLen]; exact hl, by simpa using rv⟩) (fun b u z => ?_) (fun b z => ?_) fun z => absurd (show (if a ∈ tbs.map (·.2) then some (HO.tbl #[]) else none) = none from if_neg naT) z
    · by_cases zb : b ∈ tbs.map (·.2)
      · exact .inr (.inl zb)
      · exact .inl (if_neg zb)
    · by_cases zb : b ∈ tbs.map (·.2)
      · have y' := (if_pos zb).symm.trans z
        cases y'
        exact tbE b zb
      · have y' := (if_neg zb).symm.trans z
        cases y'
    · by_cases zb : b ∈ tbs.map (·.2)
      · exact .inr zb
      · exact absurd (if_neg zb) z
  | none =>
    refine main (fun b => if b = a then some (.frz { cls := .type "list", data := .seq vs.toArray } (.lst (ns.map V.int))) else if b ∈ tbs.map (·.2) then some (.tbl #[]) else none) (fun p zp => (if_neg (show ¬ p.2 = a from fun z => naT (by rw [← z]; exact inT p zp))).trans (if_pos (inT p zp))) (fun b => ?_)
      (.inl (.inr ⟨{ cls := .type "list", data := .seq vs.toArray }, if_pos rfl⟩)) (fun b u z => ?_) (fun b z => ?_) (fun _ => hk)
    · by_cases zb : b = a
      · exact .inr (.inr ⟨_, _, if_pos zb⟩)
      · by_cases hb2 : b ∈ tbs.map (·.2)
        · exact .inr (.inl hb2)
        · exact .inl ((if_neg zb).trans (if_neg hb2))
    · by_cases zb : b = a
      · have y' := (if_pos zb).symm.trans z
        cases y'
        rw [zb]
        exact ⟨ha, (by rw [List.length_map]; exact hl), vs, _, rv, ha⟩
      · have z1 := (if_neg zb).symm.trans z
        by_cases hb2 : b ∈ tbs.map (·.2)
        · have y' := (if_pos hb2).symm.trans z1
          cases y'
          exact tbE b hb2
        · have y' := (if_neg hb2).symm.trans z1
          cases y'
    · by_cases zb : b = a
      · exact .inl zb
      · by_cases hb2 : b ∈ tbs.map (·.2)
        · exact .inr hb2
        · exact absurd ((if_neg zb).trans (if_neg hb2)) z

def LawAtG (l : PySem.W.OpenLaw) (w : World) (K : PySem.W.Frag) (k n : Nat) (x : Str) (mg : Str → Option Value) (fa : Addr) (h : Heap) : Prop :=
  ∃ (fd : FuncData) (tbs : List (Addr × Addr)) (sp : Spt), (∀ p ∈ tbs, h.get? p.2 = some { cls := .none, data := .fields #[] }) ∧ (∀ p ∈ tbs, K.lookup p.2 = none) ∧ (∀ p ∈ tbs, PySem.W.CodeHd h p.1 p.2) ∧ (∀ (s : Shared) (u : Value), BindsTo s fd ⟨[u], []⟩ [(x, u)]) ∧
    (∀ (Hz : Hp) (a : Addr) (ns : List Int), ns.length ≤ n → (∀ z ∈ ns, Builtin.Int.intBits z ≤ 1048576) → (∀ p ∈ tbs, Hz p.2 = some (.tbl #[])) → SqL K Hz a (ns.map V.int) → sp [.ref a] Hz (fun v _ => v = .bl true)) ∧
    ∀ base : Heap, K.In base → base.Ns mainGlobals mg → (∀ p ∈ tbs, GxR.TabB base mg p.1 p.2) → FnG l.prog w K mg base k fa fd [x] sp
theorem walk_G {l : PySem.W.OpenLaw} {n k : Nat} {q : Program} {loose : List Str} {XP : (Str → Option Value) → Heap → Prop} {YP : World → Heap → Prop} {d : DefRec} {x : Str} (hn : l.most = some n) (hn2 : n ≤ sizeLine) (hdf : d.params.defaults = []) (hr : Room k callerA)
    (F : ∀ (w : World) (mg : Str → Option Value) (fa : Addr) (h : Heap), YP w h → h.Ns mainGlobals mg → mg d.name = some (.ref fa) → ∃ K : PySem.W.Frag, K.In h ∧ LawAtG l w K k n x mg fa h) :
    PySem.W.WalkO q loose XP YP l.row.toRowW d [] (fun f us => PySem.call f us) := by
  refine Att.attach_callB hn hdf fun w s₀ t₁ mg mb fa o pm cd doc a vs ns G Y ho hd hcd hmg hobj hints hlen hbits hg => ?_
  obtain ⟨K, KX, fd, tbs, sp, zT, mT, cHd, zb, hsp, hF⟩ := F w mg fa _ Y G.T.g hmg
  exact law_callG KX G.T.g G.T.b G.T.builtins G.T.nolimit hg zT mT cHd G.T.bmain hobj hints (Nat.le_trans hlen hn2) hr hF zb fun Hz zH zS => hsp Hz a ns hlen hbits zH zS
end Ty
set_option autoImplicit false
set_option maxHeartbeats 200000
/-! T12: what the head tells, turned to the walk's needs. -/
namespace Ty
open PySem PySem.Spec PyProof.Rows L2 GxR
/-! ### constants that are written in the module -/
def all2B {α β : Type} (f : α → β → Bool) : List α → List β → Bool
  | [], [] => true
  | x :: xs, y :: ys => f x y && all2B f xs ys
  | _, _ => false
def wrB (K : PySem.W.Frag) : Nat → Value → D → Bool
  | _, .none, .none => true
  | _, .bool b, .bool c => b == c
  | _, .int i _, .int j => decide (i = j)
  | _, .str x _, .str y => decide (x = y)
  | n + 1, .ref a, .tuple ds => (match K.lookup a with
    | some ⟨.type c, _, .seq its _, _⟩ => decide (c = "tuple") && (decide (its.size ≤ sizeLine) && all2B (wrB K n) its.toList ds)
    | _ => false)
  | _, _, _ => false
theorem all2_ok {K : PySem.W.Frag} {f : Value → D → Bool} (h : ∀ u d, f u d = true → ∃ v, RelV v u ∧ Rp K (fun _ => none) v d) : ∀ {us : List Value} {ds : List D}, all2B f us ds = true → ∃ vs, Vals vs us ∧ RpAll K (fun _ => none) vs ds
  | [], [], _ => ⟨[], .nil, .nil⟩
  | [], _ :: _, e => by cases e
  | _ :: _, [], e => by cases e
  | u :: us, d :: ds, e => by
    obtain ⟨e1, e2⟩ := Bool.and_eq_true_iff.mp e
    obtain ⟨v, a, b⟩ := h u d e1
    obtain ⟨vs, c, f⟩ := all2_ok h e2
    exact ⟨v :: vs, .cons a c, .cons b f⟩
theorem wrB_ok {K : PySem.W.Frag} : ∀ (n : Nat) (u : Value) (d : D), wrB K n u d = true → ∃ v, RelV v u ∧ Rp K (fun _ => none) v d := by
  intro n
  induction n with
  | zero =>
    intro u d h
    cases u <;> cases d <;> first
      | exact ⟨.non, rfl, .non⟩
      | (have e := beq_iff_eq.mp h; subst e; exact ⟨.bl _, rfl, .bl _⟩)
      | (have e := of_decide_eq_true h; subst e; exact ⟨.int _, ⟨_, rfl⟩, .int _⟩)
      | (have e := of_decide_eq_true h; subst e; exact ⟨.str _, ⟨_, rfl⟩, .str _⟩)
      | (exfalso; revert h; simp [wrB]; done)
  | succ n ih =>
    intro u d h
    cases u <;> cases d <;> first
      | exact ⟨.non, rfl, .non⟩
      | (have e := beq_iff_eq.mp h; subst e; exact ⟨.bl _, rfl, .bl _⟩)
      | (have e := of_decide_eq_true h; subst e; exact ⟨.int _, ⟨_, rfl⟩, .int _⟩)
      | (have e := of_decide_eq_true h; subst e; exact ⟨.str _, ⟨_, rfl⟩, .str _⟩)
      | (exfalso; revert h; simp [wrB]; done)
      | skip
    rename_i a ds
    unfold wrB at h
    split at h
    · rename_i c od its z sl e
      obtain ⟨h1, h2⟩ := Bool.and_eq_true_iff.mp h
      obtain ⟨h3, h4⟩ := Bool.and_eq_true_iff.mp h2
      obtain ⟨vs, r1, r2⟩ := all2_ok ih h4
      have ec : c = "tuple" := of_decide_eq_true h1
      subst ec
      exact ⟨.ref a, rfl, .tup (.inr ⟨_, its, z, e, rfl, rfl, of_decide_eq_true h3, r1⟩) r2⟩
    · cases h
def wrG (K : PySem.W.Frag) (x : Str) (d : D) : Bool := match PySem.W.nsIn K mainGlobals x with
  | some (some u) => wrB K 8 u d
  | _ => false
theorem wrG_ok {K : PySem.W.Frag} {h : Heap} {mg : Str → Option Value} {x : Str} {d : D} (X : K.In h) (G : h.Ns mainGlobals mg) (e : wrG K x d = true) : WrK K mg x d := by
  unfold wrG at e
  split at e
  · rename_i u q
    obtain ⟨v, a, b⟩ := wrB_ok 8 u d e
    exact ⟨v, u, PySem.W.mg_of X G q, a, b⟩
  · cases e
/-! ### dicts that are written in the module -/
def kvB (K : PySem.W.Frag) (a : Addr) (kvs : List (Str × D)) : Bool := kvs.all fun q => match PySem.W.nsIn K a q.1 with
  | some (some u) => wrB K 8 u q.2
  | _ => false
theorem lookup_in {kvs : List (Str × D)} {z : Str} {d : D} (h : kvs.lookup z = some d) : (z, d) ∈ kvs := by
  induction kvs with
  | nil => cases h
  | cons p r ih =>
    obtain ⟨x, e⟩ := p
    rw [List.lookup_cons] at h
    split at h
    · rename_i q
      cases h
      rw [beq_iff_eq.mp q]
      exact .head _
    · exact .tail _ (ih h)
theorem lookup_out {kvs : List (Str × D)} {z : Str} (h : kvs.lookup z = none) : z ∉ kvs.map (·.1) := by
  induction kvs with
  | nil => simp
  | cons p r ih =>
    obtain ⟨x, e⟩ := p
    rw [List.lookup_cons] at h
    split at h
    · cases h
    · rename_i q
      intro m
      rcases List.mem_cons.mp m with m | m
      · rw [beq_eq_false_iff_ne] at q
        exact q m
      · exact ih h m
theorem keys_out {P : Params} {z : Str} : ∀ {es : List DictEntry} {ks : List Str}, es.map He.keyOf = He.keysIn P ks → z ∉ ks → es.find? (·.key.isStr z) = none ∧ es.any (·.refKey) = false
  | [], _, _, _ => ⟨rfl, rfl⟩
  | e :: r, [], h, _ => by cases h
  | e :: r, k :: ks, h, hz => by
    have h1 : He.keyOf e :: r.map He.keyOf = some (k, PyData.keyHash P k) :: He.keysIn P ks := h
    injection h1 with h2 h3
    obtain ⟨i1, i2⟩ := keys_out h3 fun m => hz (.tail _ m)
    obtain ⟨ek, ev, eh⟩ := e
    unfold He.keyOf at h2
    split at h2
    · rename_i x t q
      simp only at q
      subst q
      have h4 := Option.some.inj h2
      have h5 : x = k := (Prod.mk.inj h4).1
      subst h5
      have ne : Value.isStr (.str x t) z = false := by
        rw [PySem.W.isStr_of]
        show (x == z) = false
        exact beq_eq_false_iff_ne.mpr fun e => hz (by rw [e]; exact .head _)
      refine ⟨?_, ?_⟩
      · rw [List.find?_cons]
        simp only [ne]
        exact i1
      · rw [List.any_cons, i2]
        rfl
    · cases h2
theorem tabW {fa : List He.Fa} {fn : List He.DefD} {ts : List He.Tab} {w : World} {K : PySem.W.Frag} (c : He.SaysT fa fn ts w K) (i : Nat) {t : He.Tab} (h : ts[i]? = some t := by rfl) : He.dicW K (t.1 K) = some (He.keysIn w.params t.2) := by
  have e : ts.map (fun t => He.dicW K (t.1 K)) = ts.map fun t => some (He.keysIn w.params t.2) := congrArg (fun z : He.AlT => z.2) c
  have e2 : (ts.map fun t => He.dicW K (t.1 K))[i]? = (ts.map fun t => some (He.keysIn w.params t.2))[i]? := congrArg (fun l : List (Option (List (Option (Str × Int)))) => l[i]?) e
  rw [(List.getElem?_map), List.getElem?_map, h] at e2
  exact Option.some.inj e2
theorem ktab_of {K : PySem.W.Frag} {mg : Str → Option Value} {w : World} {x : Str} {a : Addr} {kvs : List (Str × D)} (hm : mg x = some (.ref a)) (h : He.dicW K a = some (He.keysIn w.params (kvs.map (·.1)))) (hv : kvB K a kvs = true) : KTabK K mg w x kvs := by
  obtain ⟨es, n, lk, kl, ns⟩ := He.dicW_ok h
  refine ⟨a, hm, ns, fun z => ⟨es, n, lk, kl, ?_⟩⟩
  cases q : kvs.lookup z with
  | some d =>
    have m := List.all_eq_true.mp hv _ (lookup_in q)
    simp only at m
    split at m
    · rename_i u q2
      obtain ⟨v, r1, r2⟩ := wrB_ok 8 u d m
      exact ⟨_, q2, u, v, rfl, r1, r2⟩
    · cases m
  | none =>
    have hk : es.toList.map He.keyOf = He.keysIn w.params (kvs.map (·.1)) := by
      unfold He.dicW at h
      rw [lk] at h
      simp only at h
      split at h
      · exact Option.some.inj h
      · cases h
    obtain ⟨f1, f2⟩ := keys_out hk (lookup_out q)
    refine ⟨none, ?_, rfl⟩
    unfold PySem.W.nsIn
    rw [lk]
    simp only
    rw [f1]
    simp only
    rw [f2]
    rfl
/-! ### a def's own code -/
theorem code_of {K : PySem.W.Frag} {x qual : Str} {st : Stmt} (F : Fun K x qual st (He.ga K x) (fdOf K x)) : (fdOf K x).code = .ref (He.cT K (x, none)).1 := by
  obtain ⟨oc, od, kV, doc, pm, an, cdv, ct, osl, e, l, c⟩ := F.ex
  obtain ⟨cc, rfl⟩ := He.codeIn_ref c
  have e1 : (fdOf K x).code = .ref cc := by rw [e] <;> rfl
  have e2 : He.codeOf K (x, none) = cc := He.codeOf_eq (p := (x, none)) l e1
  rw [e1]
  show Value.ref cc = Value.ref (He.codeOf K (x, none))
  rw [e2]
theorem cb_mk {K : PySem.W.Frag} {h : Heap} {mg : Str → Option Value} {x qual : Str} {st : Stmt} {ps : List Str} (X : K.In h) (G : h.Ns mainGlobals mg) (F : Fun K x qual st (He.ga K x) (fdOf K x)) (c : (He.Fa.glo x).ok K = true)
    (hb : ∀ (kV doc pm : Value) (an : Option Addr) (cdv ct : Value) (us : List Value), us.length = ps.length → bindArgs (PySem.W.fnOf x qual (defArgs st) (defBody st) (defScope st) .none kV doc pm an cdv ct) ⟨us, []⟩ = pure (ps.zip us)) : Cb K mg x ps :=
  ⟨He.glo_ok X G c, F.kp, F.binds hb⟩
/-- the law's promise, from what the evaluator tells -/
theorem law_sp {K : PySem.W.Frag} {cs : List (Addr × Addr)} {F : List Sl → FOut} {ns : List Int} {Hz : Hp} {a : Addr} (hF : ∃ ps, F [.fro (.list (ns.map .int))] = .ok (.bool true, false) ps) (hT : ∀ p ∈ cs, Hz p.2 = some (.tbl #[])) (hS : SqL K Hz a (ns.map V.int)) :
    spT ⟨K, tbC cs⟩ F [.ref a] Hz (fun v _ => v = .bl true) := by
  obtain ⟨ps, e⟩ := hF
  have noEx : ∀ b, ¬ Ex_ (⟨K, fun _ => False, fun b => Hz b ≠ none, tbC cs⟩ : Yc) ([some (Sl.fro (.list (ns.map .int)))]) ([some (V.ref a)]) b := fun b z => by
    rcases z with z | ⟨i, b', d, h1, h2⟩
    · exact z
    · cases i with
      | zero => cases h1
      | succ i => cases h1
  have kk : Keep Hz (cut Hz (Ex_ (⟨K, fun _ => False, fun b => Hz b ≠ none, tbC cs⟩ : Yc) ([some (Sl.fro (.list (ns.map .int)))]) ([some (V.ref a)]))) := fun b o e _ => cut_some.mpr ⟨e, noEx b⟩
  refine ⟨⟨K, fun _ => False, fun b => Hz b ≠ none, tbC cs⟩, _, ps, _, ⟨rfl, rfl⟩, ?_, e, fun v H' R => rp_bool R.res⟩
  refine ⟨rfl, fun i d h => ?_, fun i b d h => ?_, fun i j b b' d d' a e1 e2 e3 e4 => ?_, fun b z => z.elim, fun b z => z, fun p hp => ⟨_, hT p hp, ?_⟩⟩
  · cases i with
    | zero =>
      cases h
      exact ⟨.ref a, rfl, .lst (kk.sqL hS) (rp_ints ns)⟩
    | succ i => cases h
  · cases i with
    | zero => cases h
    | succ i => cases h
  · cases i with
    | zero => cases e1
    | succ i => cases e1
  · exact (show TriplesOk [] from trivial)
end Ty
set_option autoImplicit false
set_option maxHeartbeats 200000
/-! T12b: values whose repr is short and plain, without their text. -/
namespace Ty
open PySem PyProof.Rows
mutual
def sameD : D → D → Bool
  | .none, .none => true
  | .bool b, .bool c => b == c
  | .int i, .int j => decide (i = j)
  | .str x, .str y => decide (x = y)
  | .list xs, .list ys => sameL xs ys
  | .tuple xs, .tuple ys => sameL xs ys
  | _, _ => false
def sameL : List D → List D → Bool
  | [], [] => true
  | x :: xs, y :: ys => sameD x y && sameL xs ys
  | _, _ => false
end
mutual
theorem same_eq : ∀ x y : D, sameD x y = true → x = y
  | .none, y, h => by cases y <;> first | rfl | cases h
  | .bool b, y, h => by cases y <;> first | (rw [show b = _ from beq_iff_eq.mp h]) | cases h
  | .int i, y, h => by cases y <;> first | (rw [show i = _ from of_decide_eq_true h]) | cases h
  | .str x, y, h => by cases y <;> first | (rw [show x = _ from of_decide_eq_true h]) | cases h
  | .list xs, y, h => by cases y <;> first | (rw [same_eqL xs _ h]) | cases h
  | .tuple xs, y, h => by cases y <;> first | (rw [same_eqL xs _ h]) | cases h
  | .dict kvs, y, h => by cases y <;> cases h
theorem same_eqL : ∀ xs ys : List D, sameL xs ys = true → xs = ys
  | [], [], _ => rfl
  | [], _ :: _, h => by cases h
  | _ :: _, [], h => by cases h
  | x :: xs, y :: ys, h => by
    obtain ⟨h1, h2⟩ := Bool.and_eq_true_iff.mp h
    rw [same_eq x y h1, same_eqL xs ys h2]
end
def sOk (s : Str) : Bool := s.cps.toList.all fun c => decide (c < 0x110000)
def leafI (i : Int) : Bool := sOk (PyData.shown (.int i)) && decide ((PyData.shown (.int i)).length ≤ 8)
theorem leaf_tab : ((List.range 300).all fun n => leafI (n : Int) && leafI (-(n : Int))) = true := by kernel_rfl
theorem leaf_of {i : Int} (h : -300 < i ∧ i < 300) : leafI i = true := by
  have t := List.all_eq_true.mp leaf_tab i.natAbs (List.mem_range.mpr (by omega))
  obtain ⟨t1, t2⟩ := Bool.and_eq_true_iff.mp t
  rcases Int.natAbs_eq i with e | e
  · rw [e]; exact t1
  · rw [e]; exact t2
mutual
def niceL : D → Bool
  | .none => true
  | .bool _ => true
  | .int i => decide (-300 < i ∧ i < 300)
  | .str x => sOk x && sOk (PyData.shown (.str x))
  | .list xs => niceLs xs
  | .tuple xs => niceLs xs
  | .dict _ => false
def niceLs : List D → Bool
  | [] => true
  | x :: xs => niceL x && niceLs xs
end
theorem sok_iff {s : Str} : sOk s = true ↔ ∀ c ∈ s.cps.toList, c < 0x110000 := by
  unfold sOk
  simp only [List.all_eq_true, decide_eq_true_eq]
theorem sok_app {a b : Str} (ha : sOk a = true) (hb : sOk b = true) : sOk (a ++ b) = true := by
  rw [sok_iff] at *
  intro c hc
  rcases mem_cps_append.mp hc with h | h
  · exact ha c h
  · exact hb c h
theorem sok_from : ∀ (ts : List Str) (k : Nat) (acc : Str), (∀ t ∈ ts, sOk t = true) → sOk acc = true → sOk (textFrom k acc ts) = true
  | [], _, _, _, ha => ha
  | t :: ts, k, acc, h, ha => by
    refine sok_from ts (k + 1) _ (fun x hx => h x (.tail _ hx)) (sok_app (sok_app ha ?_) (h t (.head _)))
    split <;> rfl
theorem sok_join (ts : List Str) (h : ∀ t ∈ ts, sOk t = true) : sOk (Str.join ", " ts) = true := by
  rw [sok_iff]
  intro c hc
  rcases (mem_join _ _ _).mp hc with ⟨t, ht, z⟩ | ⟨_, z⟩
  · exact sok_iff.mp (h t ht) c z
  · exact sok_iff.mp (show sOk (", " : Str) = true from rfl) c z
theorem sok_tuple (ts : List Str) (h : ∀ t ∈ ts, sOk t = true) : sOk (tupleText ts) = true := by
  unfold tupleText
  refine sok_app (sok_app rfl (sok_join ts h)) ?_
  split <;> rfl
mutual
theorem nice_sok : ∀ d : D, niceL d = true → sOk d.shown = true
  | .none, _ => rfl
  | .bool b, _ => by cases b <;> rfl
  | .int i, h => (Bool.and_eq_true_iff.mp (leaf_of (of_decide_eq_true h))).1
  | .str x, h => (Bool.and_eq_true_iff.mp h).2
  | .list xs, h => sok_app (sok_from _ 0 _ (nice_soks xs h) rfl) rfl
  | .tuple xs, h => sok_tuple _ (nice_soks xs h)
  | .dict _, h => by cases h
theorem nice_soks : ∀ xs : List D, niceLs xs = true → ∀ t ∈ PyData.shownAll xs, sOk t = true
  | [], _ => fun t ht => by cases ht
  | x :: xs, h => fun t ht => by
    obtain ⟨h1, h2⟩ := Bool.and_eq_true_iff.mp h
    rcases List.mem_cons.mp (show t ∈ PyData.shown x :: PyData.shownAll xs from ht) with rfl | ht
    · exact nice_sok x h1
    · exact nice_soks xs h2 t ht
end
mutual
theorem nice_short : ∀ d : D, niceL d = true → d.leavesShort 8 = true
  | .none, _ => rfl
  | .bool b, _ => rfl
  | .int i, h => (Bool.and_eq_true_iff.mp (leaf_of (of_decide_eq_true h))).2
  | .str x, h => by
    have z := sok_iff.mp (Bool.and_eq_true_iff.mp h).1
    show (x.cps.toList.all fun c => decide (c < 16 ^ 8)) = true
    rw [List.all_eq_true]
    intro c hc
    have := z c hc
    rw [decide_eq_true_eq]
    omega
  | .list xs, h => nice_shorts xs h
  | .tuple xs, h => nice_shorts xs h
  | .dict _, h => by cases h
theorem nice_shorts : ∀ xs : List D, niceLs xs = true → PyData.leavesShortAll 8 xs = true
  | [], _ => rfl
  | x :: xs, h => by
    obtain ⟨h1, h2⟩ := Bool.and_eq_true_iff.mp h
    show (x.leavesShort 8 && PyData.leavesShortAll 8 xs) = true
    rw [nice_short x h1, nice_shorts xs h2]
    rfl
end
mutual
theorem nice_lay : ∀ d : D, niceL d = true → d.canLay0 = true
  | .none, _ => rfl
  | .bool b, _ => rfl
  | .int i, h => rfl
  | .str x, h => by
    have z := sok_iff.mp (Bool.and_eq_true_iff.mp h).1
    simp only [PyData.canLay0, PyData.strOk, Array.all_eq_true', decide_eq_true_eq]
    intro c hc
    exact z c (by simpa using hc)
  | .list xs, h => nice_lays xs h
  | .tuple xs, h => nice_lays xs h
  | .dict _, h => by cases h
theorem nice_lays : ∀ xs : List D, niceLs xs = true → PyData.canLayAll0 xs = true
  | [], _ => rfl
  | x :: xs, h => by
    obtain ⟨h1, h2⟩ := Bool.and_eq_true_iff.mp h
    show (x.canLay0 && PyData.canLayAll0 xs) = true
    rw [nice_lay x h1, nice_lays xs h2]
    rfl
end
mutual
theorem nice_show : ∀ d : D, niceL d = true → d.showable = true
  | .none, _ => rfl
  | .bool b, _ => rfl
  | .int i, h => by
    have z : -300 < i ∧ i < 300 := of_decide_eq_true h
    show decide (i.natAbs.log2 < 1920) = true
    rw [decide_eq_true_eq]
    have h2 : i.natAbs < 2 ^ 10 := by omega
    by_cases h0 : i.natAbs = 0
    · rw [h0]; decide
    · have := (Nat.log2_lt h0).mpr h2
      omega
  | .str x, h => rfl
  | .list xs, h => nice_shows xs h
  | .tuple xs, h => nice_shows xs h
  | .dict _, h => by cases h
theorem nice_shows : ∀ xs : List D, niceLs xs = true → PyData.showableAll xs = true
  | [], _ => rfl
  | x :: xs, h => by
    obtain ⟨h1, h2⟩ := Bool.and_eq_true_iff.mp h
    show (x.showable && PyData.showableAll xs) = true
    rw [nice_show x h1, nice_shows xs h2]
    rfl
end
def niceR (d : D) : Bool := niceL d && (decide (d.depth ≤ 60) && decide (d.weight ≤ 20000))
theorem niceR_bi {d : D} (h : niceR d = true) : biD "repr" [d] = some (.str d.shown, false) := by
  obtain ⟨h1, h2⟩ := Bool.and_eq_true_iff.mp h
  obtain ⟨h3, h4⟩ := Bool.and_eq_true_iff.mp h2
  have l := PyData.shown_le 8 (by decide) d (nice_short d h1)
  have w : d.weight ≤ 20000 := of_decide_eq_true h4
  have l2 : d.shown.length ≤ 1000000 := by omega
  unfold biD
  rw [if_neg (by decide), if_neg (by decide), if_neg (by decide), if_neg (by decide), if_neg (by decide), if_neg (by decide), if_neg (by decide), if_neg (by decide), if_pos rfl]
  simp only
  rw [nice_show d h1, nice_lay d h1, h3, decide_eq_true l2]
  rfl
theorem niceR_fine {d : D} (h : niceR d = true) : fine (.str d.shown) = true := by
  have z := sok_iff.mp (nice_sok d (Bool.and_eq_true_iff.mp h).1)
  unfold fine
  have e : (PyData.str d.shown).canLay0 = true := by
    simp only [PyData.canLay0, PyData.strOk, Array.all_eq_true', decide_eq_true_eq]
    intro c hc
    exact z c (by simpa using hc)
  rw [e]
  rfl
end Ty
set_option autoImplicit false
set_option maxHeartbeats 200000
/-! T13: the evaluator once more, in a form that the kernel computes with; defs whose answers are known already. -/
namespace Ty
open PySem
def oOf (e : Ex) (m : M R) : M B := match e with
  | .var i => rdOpd i
  | _ => bnd m fun r => ret (.val r.1)
def kR (e : Ex) (m : M R) : M R := match e with
  | .var i => giveVar i
  | _ => m
def kT (m : M R) : M Bool := fun ρ => match m ρ with
  | .ok (.bool b, _) ρ' => .ok b ρ'
  | _ => .bad
def oneD (bs : List B) : M D := fun ρ => match fetchAll ρ bs with
  | some [d] => .ok d ρ
  | _ => .bad
/-- two reprs that are compared: the same values have the same text -/
def kFast (p : Prim) (o : Option (M (D × D))) (slow : M R) : M R :=
  if decide (p = .eq) = true ∨ decide (p = .ne) = true then (match o with
    | some m => fun ρ => (match m ρ with
      | .ok q ρ' => if (sameD q.1 q.2 && niceR q.1) = true then .ok (.bool (decide (p = .eq)), false) ρ' else slow ρ
      | .bad => slow ρ)
    | none => slow)
  else slow
def pairM (a b : Option (M D)) : Option (M (D × D)) := match a, b with
  | some m, some n => some (bnd m fun x => bnd n fun y => ret (x, y))
  | _, _ => none
mutual
def kv (Φ : Fns) : Ex → M R
  | .var i => rdVar i
  | .con d => ret (d, false)
  | .glb _ d => ret (d, false)
  | .prim p es => kFast p (kRs Φ es) (bnd (kOs Φ es) (prim p))
  | .chain p q a b c => bnd (oOf a (kv Φ a)) fun x => bnd (oOf b (kv Φ b)) fun y => bnd (prim p [x, y]) fun r => bnd (asBool r) fun k =>
      if k then bnd (oOf c (kv Φ c)) fun z => prim q [y, z] else ret (.bool false, false)
  | .sl11 a lo hi => bnd (oOf a (kv Φ a)) fun x => bnd (kv Φ lo) fun r => bnd (kv Φ hi) fun r' => prim (.sl true true) [x, .val r.1, .val r'.1]
  | .dget a k d => bnd (oOf a (kv Φ a)) fun x => bnd (dictB x) fun _ => bnd (oOf k (kv Φ k)) fun y => bnd (oOf d (kv Φ d)) fun z => prim .get [x, y, z]
  | .and a b => bnd (kv Φ a) fun r => bnd (asBool r) fun k => if k then bnd (kv Φ b) fun r' => bnd (asBool r') fun k' => ret (.bool k', false) else ret (.bool false, false)
  | .or a b => bnd (kv Φ a) fun r => bnd (asBool r) fun k => if k then ret (.bool true, false) else bnd (kv Φ b) fun r' => bnd (asBool r') fun k' => ret (.bool k', false)
  | .not a => bnd (kv Φ a) fun r => bnd (asBool r) fun k => ret (.bool (!k), false)
  | .kget _ kvs k d => bnd (kv Φ k) fun r => bnd (kv Φ d) fun r' => (match r.1 with
    | .str z => ret ((kvs.lookup z).getD r'.1, false)
    | _ => fun _ => .bad)
  | .isi a t => bnd (kv Φ a) fun r => ret (.bool (isiD r.1 t), false)
  | .ife c a b => bnd (kv Φ c) fun r => bnd (asBool r) fun k => if k then kv Φ a else kv Φ b
  | .tup es => bnd (kLs Φ es) fun ds => ret (.tuple ds, false)
  | .lst es => bnd (kLs Φ es) fun ds => ret (.list ds, true)
  | .call f as => bnd (kA Φ as) (callF Φ f)
  | .callK f as ks π => bnd (kA Φ as) fun xs => bnd (kA Φ ks) fun ys => callP Φ f (permA π (xs ++ ys))
  | .comp own tg it ifs e => bnd (kI Φ it) fun xs => bnd (fewD xs) fun _ => bnd (blk own (each own (fun x => bnd (setTg tg (x, false)) fun _ => bnd (kC Φ ifs) fun k =>
      if k then bnd (kv Φ e) fun r => ret (some r.1) else ret none) xs)) fun ys => ret (.list ys, true)
  | .comp2 own own2 tg it ifs tg2 it2 ifs2 e => bnd (kI Φ it) fun xs => bnd (blk own (each own (fun x => bnd (setTg tg (x, false)) fun _ => bnd (kC Φ ifs) fun k =>
      if k then bnd (kI Φ it2) fun xs2 => bnd (each2 own2 (fun x => bnd (setTg tg2 (x, false)) fun _ => bnd (kC Φ ifs2) fun k =>
        if k then bnd (kv Φ e) fun r => ret (some r.1) else ret none) xs2) fun ys => ret (some (.list ys)) else ret none) xs)) fun yss =>
      bnd (fewD (yss.flatMap fun ys => (itemsOf ys).getD [])) fun _ => ret (.list (yss.flatMap fun ys => (itemsOf ys).getD []), true)
  | .gen q own tg it ifs e => bnd (kI Φ it) fun xs => bnd (blk own (seek own (fun x => bnd (setTg tg (x, false)) fun _ => bnd (kC Φ ifs) fun k =>
      if k then bnd (kv Φ e) fun r => (match q with
        | .sum => (match r.1 with
          | .int _ => ret (some r.1)
          | _ => fun _ => .bad)
        | _ => bnd (asBool r) fun _ => ret (some r.1)) else ret none)
      (fun d => match q with | .all => !isT d | .any => isT d | .sum => false) xs)) fun ys => match q with
      | .all => ret (.bool (ys.all isT), false)
      | .any => ret (.bool (ys.any isT), false)
      | .sum => bnd (lft (sumInts ys)) fun n => ret (.int n, false)
  | .sset e => bnd (oOf e (kv Φ e)) fun b => fun ρ => match fetch ρ b with
      | some (.list xs) => (match intsOf xs with
        | some ns => if decide (ns.length ≤ 2000) then .ok (.list (sortD (ns.eraseDups.map .int)), true) ρ else .bad
        | none => .bad)
      | _ => .bad
def kRa (Φ : Fns) : Ex → Option (M D)
  | .prim (.bi f) es => if decide (f = "repr") = true then some (bnd (kOs Φ es) oneD) else none
  | _ => none
def kRs (Φ : Fns) : Exs → Option (M (D × D))
  | .cons a (.cons b .nil) => pairM (kRa Φ a) (kRa Φ b)
  | _ => none
def kOs (Φ : Fns) : Exs → M (List B)
  | .nil => ret []
  | .cons e es => bnd (oOf e (kv Φ e)) fun b => bnd (kOs Φ es) fun bs => ret (b :: bs)
def kLs (Φ : Fns) : Exs → M (List D)
  | .nil => ret []
  | .cons e es => bnd (kv Φ e) fun r => bnd (kLs Φ es) fun ds => ret (r.1 :: ds)
/-- tests in a row -/
def kC (Φ : Fns) : Exs → M Bool
  | .nil => ret true
  | .cons e es => bnd (kv Φ e) fun r => bnd (asBool r) fun k => if k then kC Φ es else ret false
def kA (Φ : Fns) : Ars → M (List Arg)
  | .nil => ret []
  | .val e as => bnd (kv Φ e) fun r => bnd (kA Φ as) fun xs => ret (.val r.1 :: xs)
  | .ref i as => bnd (chkOwn i) fun _ => bnd (kA Φ as) fun xs => ret (.ref i :: xs)
def kI (Φ : Fns) : It → M (List D)
  | .seq e => bnd (kv Φ e) fun r => lft (itemsOf r.1)
  | .rng1 a => bnd (kv Φ a) fun r => (match r.1 with
    | .int j => if smallIx j then ret (rangeD 0 j.toNat) else fun _ => .bad
    | _ => fun _ => .bad)
  | .rng2 a b => bnd (kv Φ a) fun r => bnd (kv Φ b) fun r' => (match r.1, r'.1 with
    | .int i, .int j => if smallIx i && smallIx j then ret (rangeD i (j - i).toNat) else fun _ => .bad
    | _, _ => fun _ => .bad)
  | .zip a b => bnd (kv Φ a) fun r => bnd (kv Φ b) fun r' => lft (zipOf r.1 r'.1)
  | .enum a => bnd (kv Φ a) fun r => lft (enumOf r.1)
  | .str a => bnd (kv Φ a) fun r => (match r.1 with
    | .str s => ret (signsD s)
    | _ => fun _ => .bad)
end
mutual
def kx (Φ : Fns) : Sm → Env → SO
  | .asg t e => ofM (bnd (kv Φ e) (setTg t))
  | .par i j a b => ofM (bnd (kv Φ a) fun r => bnd (kv Φ b) fun r' => bnd (setVar i (r.1, false)) fun _ => setVar j r')
  | .par3 i j l a b c => ofM (bnd (kv Φ a) fun r => bnd (kv Φ b) fun r' => bnd (kv Φ c) fun r'' => bnd (setVar i (r.1, false)) fun _ => bnd (setVar j (r'.1, false)) fun _ => setVar l (r''.1, false))
  | .aug i p e => ofM (bnd (rdOpd i) fun x => bnd (oOf e (kv Φ e)) fun y => bnd (prim p [x, y]) fun r => bnd (intR r) fun _ => setVar i r)
  | .put i k e => ofM (bnd (kv Φ e) fun r => bnd (isLst i) fun _ => bnd (kv Φ k) fun r' => putAt i r'.1 r.1)
  | .app i e => ofM (bnd (isLst i) fun _ => bnd (kv Φ e) fun r => appAt i r.1)
  | .exp e => ofM (bnd (kv Φ e) fun _ => ret ())
  | .ret e => retM (kR e (kv Φ e))
  | .retN => fun ρ => .rt (.none, false) ρ
  | .ifs c a b => fun ρ => match kT (kv Φ c) ρ with
    | .ok true ρ' => kxs Φ a ρ'
    | .ok false ρ' => kxs Φ b ρ'
    | .bad => .bad
  | .for t it b => fun ρ => match kI Φ it ρ with
    | .ok xs ρ' => forL t (kxs Φ b) xs ρ'
    | .bad => .bad
  | .whl c b => whL (kT (kv Φ c)) (kxs Φ b) 1000000
  | .brk => fun ρ => .bk ρ
  | .cnt => fun ρ => .ct ρ
  | .pass => fun ρ => .nx ρ
  | .rais => fun _ => .bad
def kxs (Φ : Fns) : Sms → Env → SO
  | .nil => fun ρ => .nx ρ
  | .cons s ss => fun ρ => match kx Φ s ρ with
    | .nx ρ' => kxs Φ ss ρ'
    | o => o
end


def kD (Φ : Fns) (d : Df) (ss : List Sl) : FOut :=
  if ss.length = d.n then (match kxs Φ d.body (ss.map some ++ List.replicate (d.m - d.n) none) with
    | .rt r ρ => .ok r (parO d.n ρ)
    | .nx ρ => .ok (.none, false) (parO d.n ρ)
    | _ => .bad)
  else .bad
/-- what is known already of some calls -/
abbrev Ora := Str → List Sl → Option FOut
def kRun (tab : Str → Option Df) (O : Ora) : Nat → Fns
  | 0 => fun _ _ => .bad
  | k + 1 => fun f ss => match O f ss with
    | some r => r
    | none => (match tab f with
      | some d => kD (kRun tab O k) d ss
      | none => .bad)

theorem kRa_spec {Φ : Fns} {e : Ex} {m : M D} {ρ ρ' : Env} {d : D} (h : kRa Φ e = some m) (hm : m ρ = .ok d ρ') (hn : niceR d = true) : oOf e (kv Φ e) ρ = .ok (.val (.str d.shown)) ρ' := by
  cases e <;> try (rw [kRa] at h <;> first | cases h | (intros; contradiction))
  rename_i p es
  cases p <;> try (rw [kRa] at h <;> first | cases h | (intros; contradiction))
  rename_i f
  rw [kRa] at h
  split at h
  · rename_i q
    have ef : f = "repr" := of_decide_eq_true q
    subst ef
    cases h
    obtain ⟨bs, ρ1, h1, h2⟩ := bnd_ok hm
    unfold oneD at h2
    split at h2
    · rename_i d' e1
      cases h2
      show bnd (kv Φ (.prim (.bi "repr") es)) (fun r : R => ret (B.val r.1)) ρ = _
      rw [kv]
      show bnd (bnd (kOs Φ es) (prim (.bi "repr"))) _ ρ = _
      have e2 : bnd (kOs Φ es) (prim (.bi "repr")) ρ = .ok (.str d.shown, false) ρ' := by
        unfold bnd
        rw [h1]
        show prim (.bi "repr") bs ρ' = _
        unfold prim
        rw [e1]
        show (match biD "repr" [d] with
          | some r => Out.ok r ρ'
          | none => .bad) = _
        rw [niceR_bi hn]
      unfold bnd at e2 ⊢
      rw [e2]
      rfl
    · cases h2
  · cases h
theorem kv_primEq {Φ : Fns} (p : Prim) (es : Exs) : kv Φ (.prim p es) = bnd (kOs Φ es) (prim p) := by
  rw [kv]
  unfold kFast
  split
  · rename_i hp
    cases q : kRs Φ es with
    | none => rfl
    | some m =>
      funext ρ
      simp only
      cases q2 : m ρ with
      | bad => rfl
      | ok xy ρ' =>
        simp only
        split
        · rename_i c
          obtain ⟨c1, c2⟩ := Bool.and_eq_true_iff.mp c
          obtain ⟨x, y⟩ := xy
          have exy : x = y := same_eq _ _ c1
          subst exy
          cases es with
          | nil => rw [kRs] at q <;> first | cases q | (intros; contradiction)
          | cons a es1 =>
            cases es1 with
            | nil => rw [kRs] at q <;> first | cases q | (intros; contradiction)
            | cons b es2 =>
              cases es2 with
              | cons c es3 => rw [kRs] at q <;> first | cases q | (intros; contradiction)
              | nil =>
                rw [kRs] at q
                unfold pairM at q
                split at q
                · rename_i ma mb qa qb
                  cases q
                  obtain ⟨x1, ρ1, h1, h2⟩ := bnd_ok q2
                  obtain ⟨y1, ρ2, h3, h4⟩ := bnd_ok h2
                  cases h4
                  have A := kRa_spec qa h1 c2
                  have B := kRa_spec qb h3 c2
                  have e1 : kOs Φ (.cons a (.cons b .nil)) ρ = .ok [.val (.str x.shown), .val (.str x.shown)] ρ' := by
                    rw [kOs]
                    unfold bnd
                    rw [A]
                    simp only
                    rw [kOs]
                    unfold bnd
                    rw [B]
                    simp only
                    rw [kOs]
                    rfl
                  unfold bnd
                  rw [e1]
                  have f := niceR_fine c2
                  have eq1 : PyData.eqv (.str x.shown) (.str x.shown) = true := by
                    show (x.shown == x.shown) = true
                    exact beq_self_eq_true _
                  rcases hp with hp | hp
                  · have e := of_decide_eq_true hp
                    subst e
                    show _ = (match (if (fine (.str x.shown) && fine (.str x.shown)) = true then some (PyData.bool (PyData.eqv (.str x.shown) (.str x.shown)), false) else none) with
                      | some r => Out.ok r ρ'
                      | none => .bad)
                    rw [f, eq1]
                    rfl
                  · have e := of_decide_eq_true hp
                    subst e
                    show _ = (match (if (fine (.str x.shown) && fine (.str x.shown)) = true then some (PyData.bool (!PyData.eqv (.str x.shown) (.str x.shown)), false) else none) with
                      | some r => Out.ok r ρ'
                      | none => .bad)
                    rw [f, eq1]
                    rfl
                · cases q
        · rfl
  · rfl

/-! ### it tells what the evaluator tells -/
def Le {α : Type} (m m' : M α) : Prop := ∀ ρ a ρ', m ρ = .ok a ρ' → m' ρ = .ok a ρ'
def LeS (x x' : Env → SO) : Prop := ∀ ρ o, x ρ = o → o ≠ .bad → x' ρ = o
def FLe (Φ Ψ : Fns) : Prop := ∀ f ss r ps, Φ f ss = .ok r ps → Ψ f ss = .ok r ps
section
variable {α β : Type}
theorem Le.rfl {m : M α} : Le m m := fun _ _ _ h => h
theorem Le.bnd {m m' : M α} {f f' : α → M β} (h : Le m m') (g : ∀ a, Le (f a) (f' a)) : Le (bnd m f) (bnd m' f') := fun ρ b ρ' e => by
  obtain ⟨a, ρ1, e1, e2⟩ := bnd_ok e
  unfold Ty.bnd
  rw [h _ _ _ e1]
  exact g a _ _ _ e2
theorem Le.ite {k : Bool} {m m' n n' : M α} (h : Le m m') (g : Le n n') : Le (if k = true then m else n) (if k = true then m' else n') := by
  cases k
  · exact g
  · exact h
theorem evO_of {Φ : Fns} {P : Pars} (e : Ex) : evO Φ P e = oOf e (ev Φ P e) := by
  cases e with
  | var i => rw [evO]; rfl
  | con d => rw [evO, ev]; rfl
  | glb x d => rw [evO, ev]; rfl
  | prim p es => rw [evO, ev]; rfl
  | _ => rw [evO] <;> first | rfl | (intros; contradiction)
theorem oOf_le {e : Ex} {m m' : M R} (h : Le m m') : Le (oOf e m) (oOf e m') := by
  have z : Le (Ty.bnd m fun r => ret (B.val r.1)) (Ty.bnd m' fun r => ret (B.val r.1)) := Le.bnd h fun _ => Le.rfl
  cases e <;> first
    | exact Le.rfl
    | exact z
theorem kR_le {e : Ex} {m m' : M R} (h : Le m m') : Le (kR e m) (kR e m') := by
  cases e <;> first
    | exact Le.rfl
    | exact h
theorem kT_le {m m' : M R} (h : Le m m') : Le (kT m) (Ty.bnd m' asBool) := fun ρ a ρ' q => by
  unfold kT at q
  unfold Ty.bnd
  cases e : m ρ with
  | bad => simp only [e] at q; cases q
  | ok r ρ1 =>
    simp only [e] at q
    rw [h _ _ _ e]
    obtain ⟨d, nw⟩ := r
    cases d <;> simp only at q <;> first
      | exact q
      | cases q
theorem callF_le {Φ Ψ : Fns} (h : FLe Φ Ψ) (f : Str) (as : List Arg) : Le (callF Φ f as) (callF Ψ f as) := fun ρ a ρ' q => by
  unfold callF at q ⊢
  split at q
  · rename_i c
    rw [if_pos c]
    cases e : argSls ρ as with
    | none => simp only [e] at q; cases q
    | some ss =>
      simp only [e] at q ⊢
      cases e2 : Φ f ss with
      | bad => simp only [e2] at q; cases q
      | ok r ps =>
        simp only [e2] at q
        simp only [h _ _ _ _ e2]
        exact q
  · cases q
theorem callP_le {Φ Ψ : Fns} (h : FLe Φ Ψ) (f : Str) (as : Option (List Arg)) : Le (callP Φ f as) (callP Ψ f as) := by
  cases as with
  | none => exact Le.rfl
  | some xs => exact callF_le h f xs
theorem blk_le {own : List Nat} {m m' : M α} (h : Le m m') : Le (blk own m) (blk own m') := fun ρ a ρ' q => by
  unfold blk at q ⊢
  split at q
  · rename_i c
    rw [if_pos c]
    cases e : m (wipeE ρ own) with
    | bad => simp only [e] at q; cases q
    | ok r ρ1 =>
      simp only [e] at q
      simp only [h _ _ _ e]
      exact q
  · cases q
theorem guard_le {c : Env → Bool} {g : Env → Env} {m m' : M α} (h : Le m m') : Le (fun ρ => if c ρ = true then m (g ρ) else .bad) (fun ρ => if c ρ = true then m' (g ρ) else .bad) := fun ρ a ρ' q => by
  cases e : c ρ with
  | true =>
    simp only [e, if_true] at q ⊢
    exact h _ _ _ q
  | false => simp [e] at q
theorem each_le {own : List Nat} {f f' : D → M (Option D)} (h : ∀ x, Le (f x) (f' x)) : ∀ xs, Le (each own f xs) (each own f' xs)
  | [] => Le.rfl
  | x :: xs => Le.bnd (h x) fun y => guard_le (c := fun ρ => noOwn ρ own) (g := fun ρ => wipeE ρ own) (Le.bnd (each_le h xs) fun _ => Le.rfl)
theorem each2_le {own : List Nat} {f f' : D → M (Option D)} (h : ∀ x, Le (f x) (f' x)) : ∀ xs, Le (each2 own f xs) (each2 own f' xs)
  | [] => Le.rfl
  | x :: xs => guard_le (c := fun ρ => noOwn ρ own) (g := fun ρ => wipeE ρ own) (Le.bnd (h x) fun y => Le.bnd (each2_le h xs) fun _ => Le.rfl)
theorem seek_le {own : List Nat} {f f' : D → M (Option D)} {stop : D → Bool} (h : ∀ x, Le (f x) (f' x)) : ∀ xs, Le (seek own f stop xs) (seek own f' stop xs)
  | [] => Le.rfl
  | x :: xs => Le.bnd (h x) fun y => fun ρ a ρ' q => by
    cases e : noOwn ρ own with
    | false => simp [e] at q
    | true =>
      simp only [e, if_true] at q ⊢
      cases y with
      | none => exact seek_le h xs _ _ _ q
      | some d =>
        simp only at q ⊢
        split at q
        · rename_i c
          rw [if_pos c]
          exact q
        · rename_i c
          rw [if_neg c]
          exact Le.bnd (seek_le h xs) (fun _ => Le.rfl) _ _ _ q
end
section
variable {Φ Ψ : Fns} {P : Pars}
mutual
theorem kv_le (h : FLe Φ Ψ) : ∀ e : Ex, Le (kv Φ e) (ev Ψ P e)
  | .var i => by rw [kv, ev]; exact Le.rfl
  | .con d => by rw [kv, ev]; exact Le.rfl
  | .glb x d => by rw [kv, ev]; exact Le.rfl
  | .prim p es => by rw [kv_primEq, ev]; exact Le.bnd (kOs_le h es) fun _ => Le.rfl
  | .chain p q a b c => by
    rw [kv, ev, evO_of, evO_of, evO_of]
    exact Le.bnd (oOf_le (kv_le h a)) fun _ => Le.bnd (oOf_le (kv_le h b)) fun _ => Le.bnd Le.rfl fun _ => Le.bnd Le.rfl fun _ => Le.ite (Le.bnd (oOf_le (kv_le h c)) fun _ => Le.rfl) Le.rfl
  | .sl11 a lo hi => by
    rw [kv, ev, evO_of]
    exact Le.bnd (oOf_le (kv_le h a)) fun _ => Le.bnd (kv_le h lo) fun _ => Le.bnd (kv_le h hi) fun _ => Le.rfl
  | .dget a k d => by
    rw [kv, ev, evO_of, evO_of, evO_of]
    exact Le.bnd (oOf_le (kv_le h a)) fun _ => Le.bnd Le.rfl fun _ => Le.bnd (oOf_le (kv_le h k)) fun _ => Le.bnd (oOf_le (kv_le h d)) fun _ => Le.rfl
  | .and a b => by
    rw [kv, ev]
    exact Le.bnd (kv_le h a) fun _ => Le.bnd Le.rfl fun _ => Le.ite (Le.bnd (kv_le h b) fun _ => Le.rfl) Le.rfl
  | .or a b => by
    rw [kv, ev]
    exact Le.bnd (kv_le h a) fun _ => Le.bnd Le.rfl fun _ => Le.ite Le.rfl (Le.bnd (kv_le h b) fun _ => Le.rfl)
  | .not a => by rw [kv, ev]; exact Le.bnd (kv_le h a) fun _ => Le.rfl
  | .kget x kvs k d => by rw [kv, ev]; exact Le.bnd (kv_le h k) fun _ => Le.bnd (kv_le h d) fun _ => Le.rfl
  | .isi a t => by rw [kv, ev]; exact Le.bnd (kv_le h a) fun _ => Le.rfl
  | .ife c a b => by
    rw [kv, ev]
    exact Le.bnd (kv_le h c) fun _ => Le.bnd Le.rfl fun _ => Le.ite (kv_le h a) (kv_le h b)
  | .tup es => by rw [kv, ev]; exact Le.bnd (kLs_le h es) fun _ => Le.rfl
  | .lst es => by rw [kv, ev]; exact Le.bnd (kLs_le h es) fun _ => Le.rfl
  | .call f as => by rw [kv, ev]; exact Le.bnd (kA_le h as) fun xs => callF_le h f xs
  | .callK f as ks π => by rw [kv, ev]; exact Le.bnd (kA_le h as) fun xs => Le.bnd (kA_le h ks) fun ys => callP_le h f _
  | .comp own tg it ifs e => by
    rw [kv, ev]
    exact Le.bnd (kI_le h it) fun xs => Le.bnd Le.rfl fun _ => Le.bnd (blk_le (each_le (fun x => Le.bnd Le.rfl fun _ => Le.bnd (kC_le h ifs) fun k => Le.ite (Le.bnd (kv_le h e) fun _ => Le.rfl) Le.rfl) xs)) fun _ => Le.rfl
  | .comp2 own own2 tg it ifs tg2 it2 ifs2 e => by
    rw [kv, ev]
    exact Le.bnd (kI_le h it) fun xs => Le.bnd (blk_le (each_le (fun x => Le.bnd Le.rfl fun _ => Le.bnd (kC_le h ifs) fun k => Le.ite (Le.bnd (kI_le h it2) fun xs2 => Le.bnd (each2_le (fun x => Le.bnd Le.rfl fun _ => Le.bnd (kC_le h ifs2) fun k => Le.ite (Le.bnd (kv_le h e) fun _ => Le.rfl) Le.rfl) xs2) fun _ => Le.rfl) Le.rfl) xs)) fun _ => Le.rfl
  | .gen q own tg it ifs e => by
    rw [kv, ev]
    exact Le.bnd (kI_le h it) fun xs => Le.bnd (blk_le (seek_le (fun x => Le.bnd Le.rfl fun _ => Le.bnd (kC_le h ifs) fun k => Le.ite (Le.bnd (kv_le h e) fun _ => Le.rfl) Le.rfl) xs)) fun _ => Le.rfl
  | .sset e => by rw [kv, ev, evO_of]; exact Le.bnd (oOf_le (kv_le h e)) fun _ => Le.rfl
theorem kOs_le (h : FLe Φ Ψ) : ∀ es : Exs, Le (kOs Φ es) (evOs Ψ P es)
  | .nil => by rw [kOs, evOs]; exact Le.rfl
  | .cons e es => by rw [kOs, evOs, evO_of]; exact Le.bnd (oOf_le (kv_le h e)) fun _ => Le.bnd (kOs_le h es) fun _ => Le.rfl
theorem kLs_le (h : FLe Φ Ψ) : ∀ es : Exs, Le (kLs Φ es) (evs Ψ P es)
  | .nil => by rw [kLs, evs]; exact Le.rfl
  | .cons e es => by rw [kLs, evs]; exact Le.bnd (kv_le h e) fun _ => Le.bnd (kLs_le h es) fun _ => Le.rfl
theorem kC_le (h : FLe Φ Ψ) : ∀ es : Exs, Le (kC Φ es) (evC Ψ P es)
  | .nil => by rw [kC, evC]; exact Le.rfl
  | .cons e es => by rw [kC, evC]; exact Le.bnd (kv_le h e) fun _ => Le.bnd Le.rfl fun _ => Le.ite (kC_le h es) Le.rfl
theorem kA_le (h : FLe Φ Ψ) : ∀ as : Ars, Le (kA Φ as) (evA Ψ P as)
  | .nil => by rw [kA, evA]; exact Le.rfl
  | .val e as => by rw [kA, evA]; exact Le.bnd (kv_le h e) fun _ => Le.bnd (kA_le h as) fun _ => Le.rfl
  | .ref i as => by rw [kA, evA]; exact Le.bnd Le.rfl fun _ => Le.bnd (kA_le h as) fun _ => Le.rfl
theorem kI_le (h : FLe Φ Ψ) : ∀ it : It, Le (kI Φ it) (evI Ψ P it)
  | .seq e => by rw [kI, evI]; exact Le.bnd (kv_le h e) fun _ => Le.rfl
  | .rng1 a => by rw [kI, evI]; exact Le.bnd (kv_le h a) fun _ => Le.rfl
  | .rng2 a b => by rw [kI, evI]; exact Le.bnd (kv_le h a) fun _ => Le.bnd (kv_le h b) fun _ => Le.rfl
  | .zip a b => by rw [kI, evI]; exact Le.bnd (kv_le h a) fun _ => Le.bnd (kv_le h b) fun _ => Le.rfl
  | .enum a => by rw [kI, evI]; exact Le.bnd (kv_le h a) fun _ => Le.rfl
  | .str a => by rw [kI, evI]; exact Le.bnd (kv_le h a) fun _ => Le.rfl
end
theorem ofM_le {m m' : M Unit} (h : Le m m') : LeS (ofM m) (ofM m') := fun ρ o e ne => by
  subst e
  unfold ofM at ne ⊢
  cases q : m ρ with
  | bad => simp only [q] at ne; exact absurd trivial (by simp at ne)
  | ok a ρ1 => simp only [h _ _ _ q]
theorem retM_le {m m' : M R} (h : Le m m') : LeS (retM m) (retM m') := fun ρ o e ne => by
  subst e
  unfold retM at ne ⊢
  cases q : m ρ with
  | bad => simp only [q] at ne; exact absurd trivial (by simp at ne)
  | ok a ρ1 => simp only [h _ _ _ q]
theorem forL_le {t : Tg} {b b' : Env → SO} (h : LeS b b') : ∀ xs, LeS (forL t b xs) (forL t b' xs)
  | [] => fun ρ o e _ => e
  | x :: xs => fun ρ o e ne => by
    subst e
    unfold forL at ne ⊢
    cases q : setTg t (x, false) ρ with
    | bad => simp only [q] at ne; exact absurd trivial (by simp at ne)
    | ok a ρ1 =>
      simp only [q] at ne ⊢
      cases q2 : b ρ1 with
      | bad => simp only [q2] at ne; exact absurd trivial (by simp at ne)
      | nx ρ2 =>
        simp only [q2] at ne ⊢
        simp only [h _ _ q2 (by simp)]
        exact forL_le h xs _ _ rfl ne
      | ct ρ2 =>
        simp only [q2] at ne ⊢
        simp only [h _ _ q2 (by simp)]
        exact forL_le h xs _ _ rfl ne
      | bk ρ2 => simp only [h _ _ q2 (by simp)]
      | rt r ρ2 => simp only [h _ _ q2 (by simp)]
theorem whL_le {c c' : M Bool} {b b' : Env → SO} (hc : Le c c') (h : LeS b b') : ∀ n, LeS (whL c b n) (whL c' b' n)
  | 0 => fun ρ o e _ => e
  | n + 1 => fun ρ o e ne => by
    subst e
    unfold whL at ne ⊢
    cases q : c ρ with
    | bad => simp only [q] at ne; exact absurd trivial (by simp at ne)
    | ok a ρ1 =>
      simp only [hc _ _ _ q]
      simp only [q] at ne
      cases a with
      | false => rfl
      | true =>
        simp only at ne ⊢
        cases q2 : b ρ1 with
        | bad => simp only [q2] at ne; exact absurd trivial (by simp at ne)
        | nx ρ2 =>
          simp only [q2] at ne ⊢
          simp only [h _ _ q2 (by simp)]
          exact whL_le hc h n _ _ rfl ne
        | ct ρ2 =>
          simp only [q2] at ne ⊢
          simp only [h _ _ q2 (by simp)]
          exact whL_le hc h n _ _ rfl ne
        | bk ρ2 => simp only [h _ _ q2 (by simp)]
        | rt r ρ2 => simp only [h _ _ q2 (by simp)]
theorem evR_of (e : Ex) : evR Ψ P e = kR e (ev Ψ P e) := by
  cases e <;> rfl
mutual
theorem kx_le (h : FLe Φ Ψ) : ∀ s : Sm, LeS (kx Φ s) (ex Ψ P s)
  | .asg t e => by rw [kx, ex]; exact ofM_le (Le.bnd (kv_le h e) fun _ => Le.rfl)
  | .par i j a b => by rw [kx, ex]; exact ofM_le (Le.bnd (kv_le h a) fun _ => Le.bnd (kv_le h b) fun _ => Le.rfl)
  | .par3 i j l a b c => by rw [kx, ex]; exact ofM_le (Le.bnd (kv_le h a) fun _ => Le.bnd (kv_le h b) fun _ => Le.bnd (kv_le h c) fun _ => Le.rfl)
  | .aug i p e => by rw [kx, ex, evO_of]; exact ofM_le (Le.bnd Le.rfl fun _ => Le.bnd (oOf_le (kv_le h e)) fun _ => Le.rfl)
  | .put i k e => by rw [kx, ex]; exact ofM_le (Le.bnd (kv_le h e) fun _ => Le.bnd Le.rfl fun _ => Le.bnd (kv_le h k) fun _ => Le.rfl)
  | .app i e => by rw [kx, ex]; exact ofM_le (Le.bnd Le.rfl fun _ => Le.bnd (kv_le h e) fun _ => Le.rfl)
  | .exp e => by rw [kx, ex]; exact ofM_le (Le.bnd (kv_le h e) fun _ => Le.rfl)
  | .ret e => by rw [kx, ex, evR_of]; exact retM_le (kR_le (kv_le h e))
  | .retN => by rw [kx, ex]; exact fun ρ o e _ => e
  | .ifs c a b => by
    rw [kx, ex]
    intro ρ o e ne
    subst e
    cases q : kT (kv Φ c) ρ with
    | bad => simp only [q] at ne; exact absurd trivial (by simp at ne)
    | ok k ρ1 =>
      have q2 : tst Ψ P c ρ = .ok k ρ1 := kT_le (kv_le h c) _ _ _ q
      simp only [q] at ne ⊢
      simp only [q2]
      cases k with
      | false => exact kxs_le h b _ _ rfl ne
      | true => exact kxs_le h a _ _ rfl ne
  | .for t it b => by
    rw [kx, ex]
    intro ρ o e ne
    subst e
    cases q : kI Φ it ρ with
    | bad => simp only [q] at ne; exact absurd trivial (by simp at ne)
    | ok xs ρ1 =>
      simp only [q] at ne ⊢
      simp only [kI_le (P := P) h it _ _ _ q]
      exact forL_le (kxs_le h b) xs _ _ rfl ne
  | .whl c b => by rw [kx, ex]; exact whL_le (kT_le (kv_le h c)) (kxs_le h b) _
  | .brk => by rw [kx, ex]; exact fun ρ o e _ => e
  | .cnt => by rw [kx, ex]; exact fun ρ o e _ => e
  | .pass => by rw [kx, ex]; exact fun ρ o e _ => e
  | .rais => by rw [kx, ex]; exact fun ρ o e _ => e
theorem kxs_le (h : FLe Φ Ψ) : ∀ ss : Sms, LeS (kxs Φ ss) (exs Ψ P ss)
  | .nil => by rw [kxs, exs]; exact fun ρ o e _ => e
  | .cons s ss => by
    rw [kxs, exs]
    intro ρ o e ne
    subst e
    cases q : kx Φ s ρ with
    | bad => simp only [q] at ne; exact absurd trivial (by simp at ne)
    | nx ρ1 =>
      simp only [q] at ne ⊢
      simp only [kx_le h s _ _ q (by simp)]
      exact kxs_le h ss _ _ rfl ne
    | bk ρ1 => simp only [q, kx_le h s _ _ q (by simp)]
    | ct ρ1 => simp only [q, kx_le h s _ _ q (by simp)]
    | rt r ρ1 => simp only [q, kx_le h s _ _ q (by simp)]
end
theorem kD_le (h : FLe Φ Ψ) (d : Df) (ss : List Sl) (r : R) (ps : List Sl) (e : kD Φ d ss = .ok r ps) : runD Ψ P d ss = .ok r ps := by
  unfold kD at e
  unfold runD
  split at e
  · rename_i c
    rw [if_pos c]
    cases q : kxs Φ d.body (ss.map some ++ List.replicate (d.m - d.n) none) with
    | bad => simp only [q] at e; cases e
    | bk ρ1 => simp only [q] at e; cases e
    | ct ρ1 => simp only [q] at e; cases e
    | nx ρ1 =>
      simp only [q] at e
      simp only [kxs_le h d.body _ _ q (by simp)]
      exact e
    | rt r ρ1 =>
      simp only [q] at e
      simp only [kxs_le h d.body _ _ q (by simp)]
      exact e
  · cases e
theorem Tk_le {m m' : M R} (h : Le m m') : Le (Ty.bnd m asBool) (kT m') := fun ρ a ρ' q => by
  obtain ⟨⟨d, nw⟩, ρ1, e1, e2⟩ := bnd_ok q
  obtain ⟨hb, rfl⟩ := asBool_ok e2
  unfold kT
  rw [h _ _ _ e1]
  cases hb
  rfl
mutual
theorem ev_le (h : FLe Φ Ψ) : ∀ e : Ex, Le (ev Φ P e) (kv Ψ e)
  | .var i => by rw [ev, kv]; exact Le.rfl
  | .con d => by rw [ev, kv]; exact Le.rfl
  | .glb x d => by rw [ev, kv]; exact Le.rfl
  | .prim p es => by rw [ev, kv_primEq]; exact Le.bnd (evOs_le h es) fun _ => Le.rfl
  | .chain p q a b c => by
    rw [ev, kv, evO_of, evO_of, evO_of]
    exact Le.bnd (oOf_le (ev_le h a)) fun _ => Le.bnd (oOf_le (ev_le h b)) fun _ => Le.bnd Le.rfl fun _ => Le.bnd Le.rfl fun _ => Le.ite (Le.bnd (oOf_le (ev_le h c)) fun _ => Le.rfl) Le.rfl
  | .sl11 a lo hi => by
    rw [ev, kv, evO_of]
    exact Le.bnd (oOf_le (ev_le h a)) fun _ => Le.bnd (ev_le h lo) fun _ => Le.bnd (ev_le h hi) fun _ => Le.rfl
  | .dget a k d => by
    rw [ev, kv, evO_of, evO_of, evO_of]
    exact Le.bnd (oOf_le (ev_le h a)) fun _ => Le.bnd Le.rfl fun _ => Le.bnd (oOf_le (ev_le h k)) fun _ => Le.bnd (oOf_le (ev_le h d)) fun _ => Le.rfl
  | .and a b => by
    rw [ev, kv]
    exact Le.bnd (ev_le h a) fun _ => Le.bnd Le.rfl fun _ => Le.ite (Le.bnd (ev_le h b) fun _ => Le.rfl) Le.rfl
  | .or a b => by
    rw [ev, kv]
    exact Le.bnd (ev_le h a) fun _ => Le.bnd Le.rfl fun _ => Le.ite Le.rfl (Le.bnd (ev_le h b) fun _ => Le.rfl)
  | .not a => by rw [ev, kv]; exact Le.bnd (ev_le h a) fun _ => Le.rfl
  | .kget x kvs k d => by rw [ev, kv]; exact Le.bnd (ev_le h k) fun _ => Le.bnd (ev_le h d) fun _ => Le.rfl
  | .isi a t => by rw [ev, kv]; exact Le.bnd (ev_le h a) fun _ => Le.rfl
  | .ife c a b => by
    rw [ev, kv]
    exact Le.bnd (ev_le h c) fun _ => Le.bnd Le.rfl fun _ => Le.ite (ev_le h a) (ev_le h b)
  | .tup es => by rw [ev, kv]; exact Le.bnd (evs_le h es) fun _ => Le.rfl
  | .lst es => by rw [ev, kv]; exact Le.bnd (evs_le h es) fun _ => Le.rfl
  | .call f as => by rw [ev, kv]; exact Le.bnd (evA_le h as) fun xs => callF_le h f xs
  | .callK f as ks π => by rw [ev, kv]; exact Le.bnd (evA_le h as) fun xs => Le.bnd (evA_le h ks) fun ys => callP_le h f _
  | .comp own tg it ifs e => by
    rw [ev, kv]
    exact Le.bnd (evI_le h it) fun xs => Le.bnd Le.rfl fun _ => Le.bnd (blk_le (each_le (fun x => Le.bnd Le.rfl fun _ => Le.bnd (evC_le h ifs) fun k => Le.ite (Le.bnd (ev_le h e) fun _ => Le.rfl) Le.rfl) xs)) fun _ => Le.rfl
  | .comp2 own own2 tg it ifs tg2 it2 ifs2 e => by
    rw [ev, kv]
    exact Le.bnd (evI_le h it) fun xs => Le.bnd (blk_le (each_le (fun x => Le.bnd Le.rfl fun _ => Le.bnd (evC_le h ifs) fun k => Le.ite (Le.bnd (evI_le h it2) fun xs2 => Le.bnd (each2_le (fun x => Le.bnd Le.rfl fun _ => Le.bnd (evC_le h ifs2) fun k => Le.ite (Le.bnd (ev_le h e) fun _ => Le.rfl) Le.rfl) xs2) fun _ => Le.rfl) Le.rfl) xs)) fun _ => Le.rfl
  | .gen q own tg it ifs e => by
    rw [ev, kv]
    exact Le.bnd (evI_le h it) fun xs => Le.bnd (blk_le (seek_le (fun x => Le.bnd Le.rfl fun _ => Le.bnd (evC_le h ifs) fun k => Le.ite (Le.bnd (ev_le h e) fun _ => Le.rfl) Le.rfl) xs)) fun _ => Le.rfl
  | .sset e => by rw [ev, kv, evO_of]; exact Le.bnd (oOf_le (ev_le h e)) fun _ => Le.rfl
theorem evOs_le (h : FLe Φ Ψ) : ∀ es : Exs, Le (evOs Φ P es) (kOs Ψ es)
  | .nil => by rw [evOs, kOs]; exact Le.rfl
  | .cons e es => by rw [evOs, kOs, evO_of]; exact Le.bnd (oOf_le (ev_le h e)) fun _ => Le.bnd (evOs_le h es) fun _ => Le.rfl
theorem evs_le (h : FLe Φ Ψ) : ∀ es : Exs, Le (evs Φ P es) (kLs Ψ es)
  | .nil => by rw [evs, kLs]; exact Le.rfl
  | .cons e es => by rw [evs, kLs]; exact Le.bnd (ev_le h e) fun _ => Le.bnd (evs_le h es) fun _ => Le.rfl
theorem evC_le (h : FLe Φ Ψ) : ∀ es : Exs, Le (evC Φ P es) (kC Ψ es)
  | .nil => by rw [evC, kC]; exact Le.rfl
  | .cons e es => by rw [evC, kC]; exact Le.bnd (ev_le h e) fun _ => Le.bnd Le.rfl fun _ => Le.ite (evC_le h es) Le.rfl
theorem evA_le (h : FLe Φ Ψ) : ∀ as : Ars, Le (evA Φ P as) (kA Ψ as)
  | .nil => by rw [evA, kA]; exact Le.rfl
  | .val e as => by rw [evA, kA]; exact Le.bnd (ev_le h e) fun _ => Le.bnd (evA_le h as) fun _ => Le.rfl
  | .ref i as => by rw [evA, kA]; exact Le.bnd Le.rfl fun _ => Le.bnd (evA_le h as) fun _ => Le.rfl
theorem evI_le (h : FLe Φ Ψ) : ∀ it : It, Le (evI Φ P it) (kI Ψ it)
  | .seq e => by rw [evI, kI]; exact Le.bnd (ev_le h e) fun _ => Le.rfl
  | .rng1 a => by rw [evI, kI]; exact Le.bnd (ev_le h a) fun _ => Le.rfl
  | .rng2 a b => by rw [evI, kI]; exact Le.bnd (ev_le h a) fun _ => Le.bnd (ev_le h b) fun _ => Le.rfl
  | .zip a b => by rw [evI, kI]; exact Le.bnd (ev_le h a) fun _ => Le.bnd (ev_le h b) fun _ => Le.rfl
  | .enum a => by rw [evI, kI]; exact Le.bnd (ev_le h a) fun _ => Le.rfl
  | .str a => by rw [evI, kI]; exact Le.bnd (ev_le h a) fun _ => Le.rfl
end
mutual
theorem ex_le (h : FLe Φ Ψ) : ∀ s : Sm, LeS (ex Φ P s) (kx Ψ s)
  | .asg t e => by rw [ex, kx]; exact ofM_le (Le.bnd (ev_le h e) fun _ => Le.rfl)
  | .par i j a b => by rw [ex, kx]; exact ofM_le (Le.bnd (ev_le h a) fun _ => Le.bnd (ev_le h b) fun _ => Le.rfl)
  | .par3 i j l a b c => by rw [ex, kx]; exact ofM_le (Le.bnd (ev_le h a) fun _ => Le.bnd (ev_le h b) fun _ => Le.bnd (ev_le h c) fun _ => Le.rfl)
  | .aug i p e => by rw [ex, kx, evO_of]; exact ofM_le (Le.bnd Le.rfl fun _ => Le.bnd (oOf_le (ev_le h e)) fun _ => Le.rfl)
  | .put i k e => by rw [ex, kx]; exact ofM_le (Le.bnd (ev_le h e) fun _ => Le.bnd Le.rfl fun _ => Le.bnd (ev_le h k) fun _ => Le.rfl)
  | .app i e => by rw [ex, kx]; exact ofM_le (Le.bnd Le.rfl fun _ => Le.bnd (ev_le h e) fun _ => Le.rfl)
  | .exp e => by rw [ex, kx]; exact ofM_le (Le.bnd (ev_le h e) fun _ => Le.rfl)
  | .ret e => by rw [ex, kx, evR_of]; exact retM_le (kR_le (ev_le h e))
  | .retN => by rw [ex, kx]; exact fun ρ o e _ => e
  | .ifs c a b => by
    rw [ex, kx]
    intro ρ o e ne
    subst e
    cases q : tst Φ P c ρ with
    | bad => simp only [q] at ne; exact absurd trivial (by simp at ne)
    | ok k ρ1 =>
      have q2 : kT (kv Ψ c) ρ = .ok k ρ1 := Tk_le (ev_le h c) _ _ _ q
      simp only [q] at ne ⊢
      simp only [q2]
      cases k with
      | false => exact exs_le h b _ _ rfl ne
      | true => exact exs_le h a _ _ rfl ne
  | .for t it b => by
    rw [ex, kx]
    intro ρ o e ne
    subst e
    cases q : evI Φ P it ρ with
    | bad => simp only [q] at ne; exact absurd trivial (by simp at ne)
    | ok xs ρ1 =>
      simp only [q] at ne ⊢
      simp only [evI_le (P := P) h it _ _ _ q]
      exact forL_le (exs_le h b) xs _ _ rfl ne
  | .whl c b => by rw [ex, kx]; exact whL_le (Tk_le (ev_le h c)) (exs_le h b) _
  | .brk => by rw [ex, kx]; exact fun ρ o e _ => e
  | .cnt => by rw [ex, kx]; exact fun ρ o e _ => e
  | .pass => by rw [ex, kx]; exact fun ρ o e _ => e
  | .rais => by rw [ex, kx]; exact fun ρ o e _ => e
theorem exs_le (h : FLe Φ Ψ) : ∀ ss : Sms, LeS (exs Φ P ss) (kxs Ψ ss)
  | .nil => by rw [exs, kxs]; exact fun ρ o e _ => e
  | .cons s ss => by
    rw [exs, kxs]
    intro ρ o e ne
    subst e
    cases q : ex Φ P s ρ with
    | bad => simp only [q] at ne; exact absurd trivial (by simp at ne)
    | nx ρ1 =>
      simp only [q] at ne ⊢
      simp only [ex_le h s _ _ q (by simp)]
      exact exs_le h ss _ _ rfl ne
    | bk ρ1 => simp only [q, ex_le h s _ _ q (by simp)]
    | ct ρ1 => simp only [q, ex_le h s _ _ q (by simp)]
    | rt r ρ1 => simp only [q, ex_le h s _ _ q (by simp)]
end
theorem Dk_le (h : FLe Φ Ψ) (d : Df) (ss : List Sl) (r : R) (ps : List Sl) (e : runD Φ P d ss = .ok r ps) : kD Ψ d ss = .ok r ps := by
  unfold runD at e
  unfold kD
  split at e
  · rename_i c
    rw [if_pos c]
    cases q : exs Φ P d.body (ss.map some ++ List.replicate (d.m - d.n) none) with
    | bad => simp only [q] at e; cases e
    | bk ρ1 => simp only [q] at e; cases e
    | ct ρ1 => simp only [q] at e; cases e
    | nx ρ1 =>
      simp only [q] at e
      simp only [exs_le (P := P) h d.body _ _ q (by simp)]
      exact e
    | rt r ρ1 =>
      simp only [q] at e
      simp only [exs_le (P := P) h d.body _ _ q (by simp)]
      exact e
  · cases e
end
/-- the answers that are known are right, with k0 levels of calls -/
def OraOk (tab : Str → Option Df) (P : Pars) (O : Ora) (k0 : Nat) : Prop := ∀ f ss r ps, O f ss = some (.ok r ps) → run tab P k0 f ss = .ok r ps
theorem run_up {tab : Str → Option Df} {P : Pars} : ∀ k, FLe (run tab P k) (run tab P (k + 1))
  | 0 => fun f ss r ps e => by cases e
  | k + 1 => fun f ss r ps e => by
    have e' : (match tab f with
      | some d => runD (run tab P k) P d ss
      | none => FOut.bad) = .ok r ps := e
    show (match tab f with
      | some d => runD (run tab P (k + 1)) P d ss
      | none => FOut.bad) = _
    cases q2 : tab f with
    | none => rw [q2] at e'; cases e'
    | some d =>
      rw [q2] at e'
      exact kD_le (run_up k) d ss r ps (Dk_le (P := P) (fun _ _ _ _ z => z) d ss r ps e')
theorem run_more {tab : Str → Option Df} {P : Pars} {k : Nat} {f : Str} {ss ps : List Sl} {r : R} (h : run tab P k f ss = .ok r ps) : ∀ j, run tab P (k + j) f ss = .ok r ps
  | 0 => h
  | j + 1 => run_up (k + j) f ss r ps (run_more h j)

theorem kRun_le {tab : Str → Option Df} {P : Pars} {O : Ora} {k0 : Nat} (hO : OraOk tab P O k0) : ∀ k, FLe (kRun tab O k) (run tab P (k + k0))
  | 0 => fun f ss r ps e => by cases e
  | k + 1 => fun f ss r ps e => by
    have e' : (match O f ss with
      | some r => r
      | none => (match tab f with
        | some d => kD (kRun tab O k) d ss
        | none => .bad)) = .ok r ps := e
    cases q : O f ss with
    | some r' =>
      rw [q] at e'
      simp only at e'
      rw [e'] at q
      have z := run_more (hO f ss r ps q) (k + 1)
      rwa [Nat.add_comm] at z
    | none =>
      rw [q] at e'
      simp only at e'
      rw [Nat.add_right_comm]
      show (match tab f with
        | some d => runD (run tab P (k + k0)) P d ss
        | none => FOut.bad) = _
      cases q2 : tab f with
      | none => rw [q2] at e'; cases e'
      | some d =>
        rw [q2] at e'
        exact kD_le (kRun_le hO k) d ss r ps e'
end Ty
set_option autoImplicit false
set_option maxHeartbeats 200000
/-! T14: steps of the twin evaluator, for proofs with values that are not known. -/
namespace Ty
open PySem
section
variable {Φ : Fns} {ρ ρ' ρ1 ρ2 : Env} {s : Sm} {ss : Sms} {e e1 e2 c : Ex} {r r' : R} {t : Tg} {it : It} {xs : List D} {b b1 b2 : Sms} {o : SO}
theorem bnd_at {α β : Type} {m : M α} {f : α → M β} {a : α} (h : m ρ = .ok a ρ') : bnd m f ρ = f a ρ' := by
  unfold bnd
  rw [h]
theorem kxs_nil : kxs Φ .nil ρ = .nx ρ := rfl
theorem kxs_nx (h : kx Φ s ρ = .nx ρ') : kxs Φ (.cons s ss) ρ = kxs Φ ss ρ' := by
  show (match kx Φ s ρ with
    | .nx ρ' => kxs Φ ss ρ'
    | o => o) = _
  rw [h]
theorem kxs_rt (h : kx Φ s ρ = .rt r ρ') : kxs Φ (.cons s ss) ρ = .rt r ρ' := by
  show (match kx Φ s ρ with
    | .nx ρ' => kxs Φ ss ρ'
    | o => o) = _
  rw [h]
theorem kxs_ct (h : kx Φ s ρ = .ct ρ') : kxs Φ (.cons s ss) ρ = .ct ρ' := by
  show (match kx Φ s ρ with
    | .nx ρ' => kxs Φ ss ρ'
    | o => o) = _
  rw [h]
theorem kxs_bk (h : kx Φ s ρ = .bk ρ') : kxs Φ (.cons s ss) ρ = .bk ρ' := by
  show (match kx Φ s ρ with
    | .nx ρ' => kxs Φ ss ρ'
    | o => o) = _
  rw [h]
theorem kx_asg (h : kv Φ e ρ = .ok r ρ1) (h2 : setTg t r ρ1 = .ok () ρ2) : kx Φ (.asg t e) ρ = .nx ρ2 := by
  show ofM (bnd (kv Φ e) (setTg t)) ρ = _
  unfold ofM
  rw [bnd_at h, h2]
theorem kx_par {i j : Nat} {ρ3 : Env} (h : kv Φ e ρ = .ok r ρ1) (h2 : kv Φ e1 ρ1 = .ok r' ρ2) (h3 : bnd (setVar i (r.1, false)) (fun _ => setVar j r') ρ2 = .ok () ρ3) : kx Φ (.par i j e e1) ρ = .nx ρ3 := by
  show ofM (bnd (kv Φ e) fun r => bnd (kv Φ e1) fun r' => bnd (setVar i (r.1, false)) fun _ => setVar j r') ρ = _
  unfold ofM
  rw [bnd_at h, bnd_at h2, h3]
theorem kx_ret (h : kR e (kv Φ e) ρ = .ok r ρ') : kx Φ (.ret e) ρ = .rt r ρ' := by
  show retM (kR e (kv Φ e)) ρ = _
  unfold retM
  rw [h]
theorem kx_retV (h : kv Φ e ρ = .ok r ρ') (hv : ∀ m, kR e m = m := by intro _; rfl) : kx Φ (.ret e) ρ = .rt r ρ' := kx_ret (by rw [hv]; exact h)
theorem kx_app {i : Nat} (h0 : isLst i ρ = .ok () ρ) (h : kv Φ e ρ = .ok r ρ1) (h2 : appAt i r.1 ρ1 = .ok () ρ2) : kx Φ (.app i e) ρ = .nx ρ2 := by
  show ofM (bnd (isLst i) fun _ => bnd (kv Φ e) fun r => appAt i r.1) ρ = _
  unfold ofM
  rw [bnd_at h0, bnd_at h, h2]
theorem kx_put {i : Nat} {k : Ex} {ρ3 : Env} (h : kv Φ e ρ = .ok r ρ1) (h0 : isLst i ρ1 = .ok () ρ1) (h1 : kv Φ k ρ1 = .ok r' ρ2) (h2 : putAt i r'.1 r.1 ρ2 = .ok () ρ3) : kx Φ (.put i k e) ρ = .nx ρ3 := by
  show ofM (bnd (kv Φ e) fun r => bnd (isLst i) fun _ => bnd (kv Φ k) fun r' => putAt i r'.1 r.1) ρ = _
  unfold ofM
  rw [bnd_at h, bnd_at h0, bnd_at h1, h2]
theorem kx_if {k : Bool} (h : kT (kv Φ c) ρ = .ok k ρ') : kx Φ (.ifs c b1 b2) ρ = if k = true then kxs Φ b1 ρ' else kxs Φ b2 ρ' := by
  show (match kT (kv Φ c) ρ with
    | .ok true ρ' => kxs Φ b1 ρ'
    | .ok false ρ' => kxs Φ b2 ρ'
    | .bad => .bad) = _
  rw [h]
  cases k <;> rfl
theorem kx_for (h : kI Φ it ρ = .ok xs ρ') : kx Φ (.for t it b) ρ = forL t (kxs Φ b) xs ρ' := by
  show (match kI Φ it ρ with
    | .ok xs ρ' => forL t (kxs Φ b) xs ρ'
    | .bad => .bad) = _
  rw [h]
theorem forL_nx {x : D} {g : Env → SO} (h : setTg t (x, false) ρ = .ok () ρ1) (h2 : g ρ1 = .nx ρ2) : forL t g (x :: xs) ρ = forL t g xs ρ2 := by
  show (match setTg t (x, false) ρ with
    | .ok _ ρ1 => (match g ρ1 with
      | .nx ρ2 => forL t g xs ρ2
      | .ct ρ2 => forL t g xs ρ2
      | .bk ρ2 => .nx ρ2
      | .rt r ρ2 => .rt r ρ2
      | .bad => .bad)
    | .bad => .bad) = _
  rw [h]
  simp only
  rw [h2]
theorem forL_ct {x : D} {g : Env → SO} (h : setTg t (x, false) ρ = .ok () ρ1) (h2 : g ρ1 = .ct ρ2) : forL t g (x :: xs) ρ = forL t g xs ρ2 := by
  show (match setTg t (x, false) ρ with
    | .ok _ ρ1 => (match g ρ1 with
      | .nx ρ2 => forL t g xs ρ2
      | .ct ρ2 => forL t g xs ρ2
      | .bk ρ2 => .nx ρ2
      | .rt r ρ2 => .rt r ρ2
      | .bad => .bad)
    | .bad => .bad) = _
  rw [h]
  simp only
  rw [h2]
theorem forL_rt {x : D} {g : Env → SO} (h : setTg t (x, false) ρ = .ok () ρ1) (h2 : g ρ1 = .rt r ρ2) : forL t g (x :: xs) ρ = .rt r ρ2 := by
  show (match setTg t (x, false) ρ with
    | .ok _ ρ1 => (match g ρ1 with
      | .nx ρ2 => forL t g xs ρ2
      | .ct ρ2 => forL t g xs ρ2
      | .bk ρ2 => .nx ρ2
      | .rt r ρ2 => .rt r ρ2
      | .bad => .bad)
    | .bad => .bad) = _
  rw [h]
  simp only
  rw [h2]
theorem kD_rt {d : Df} {sl : List Sl} (hn : sl.length = d.n) (h : kxs Φ d.body (sl.map some ++ List.replicate (d.m - d.n) none) = .rt r ρ) : kD Φ d sl = .ok r (parO d.n ρ) := by
  unfold kD
  rw [if_pos hn, h]
theorem kD_nx {d : Df} {sl : List Sl} (hn : sl.length = d.n) (h : kxs Φ d.body (sl.map some ++ List.replicate (d.m - d.n) none) = .nx ρ) : kD Φ d sl = .ok (.none, false) (parO d.n ρ) := by
  unfold kD
  rw [if_pos hn, h]
/-- a call with values alone -/
theorem argSls_val : ∀ ds : List D, argSls ρ (ds.map .val) = some (ds.map .fro)
  | [] => rfl
  | d :: ds => by
    show (match some (Sl.fro d), argSls ρ (ds.map .val) with
      | some s, some ss => some (s :: ss)
      | _, _ => none) = _
    rw [argSls_val ds]
    rfl
theorem backArgs_val : ∀ (ds : List D) (ps : List Sl), ds.length ≤ ps.length → backArgs (ds.map .val) ps ρ = some ρ
  | [], _, _ => rfl
  | d :: ds, [], h => by simp at h
  | d :: ds, p :: ps, h => backArgs_val ds ps (by simpa using h)
theorem refs_val : ∀ ds : List D, refsOf (ds.map .val) = []
  | [] => rfl
  | d :: ds => refs_val ds
theorem callF_val {f : Str} (ds : List D) {ps : List Sl} (h : Φ f (ds.map .fro) = .ok r ps) (hl : ds.length ≤ ps.length) : callF Φ f (ds.map .val) ρ = .ok r ρ := by
  unfold callF
  rw [refs_val, if_pos (by decide), argSls_val]
  simp only
  rw [h]
  simp only
  rw [backArgs_val ds ps hl]
theorem kv_call {f : Str} {as : Ars} (ds : List D) {ps : List Sl} (ha : kA Φ as ρ = .ok (ds.map .val) ρ') (h : Φ f (ds.map .fro) = .ok r ps) (hl : ds.length ≤ ps.length := by first | exact Nat.le_refl _ | decide) : kv Φ (.call f as) ρ = .ok r ρ' := by
  show bnd (kA Φ as) (callF Φ f) ρ = _
  rw [bnd_at ha]
  exact callF_val ds h hl

theorem kOs_cons {es : Exs} {x : B} {bs : List B} (h1 : oOf e (kv Φ e) ρ = .ok x ρ1) (h2 : kOs Φ es ρ1 = .ok bs ρ2) : kOs Φ (.cons e es) ρ = .ok (x :: bs) ρ2 := by
  show bnd (oOf e (kv Φ e)) (fun b => bnd (kOs Φ es) fun bs => ret (b :: bs)) ρ = _
  rw [bnd_at h1, bnd_at h2]
  rfl
theorem oOf_val (h : kv Φ e ρ = .ok r ρ1) (hv : ∀ m, oOf e m = bnd m fun r => ret (.val r.1) := by intro _; rfl) : oOf e (kv Φ e) ρ = .ok (.val r.1) ρ1 := by
  rw [hv, bnd_at h]
  rfl
theorem kv_prim {q : Prim} {es : Exs} {bs : List B} (h : kOs Φ es ρ = .ok bs ρ1) (h2 : prim q bs ρ1 = .ok r ρ2) : kv Φ (.prim q es) ρ = .ok r ρ2 := by
  rw [kv_primEq, bnd_at h, h2]
theorem kC_one {k nw : Bool} (h : kv Φ e ρ = .ok (.bool k, nw) ρ1) : kC Φ (.cons e .nil) ρ = .ok k ρ1 := by
  show bnd (kv Φ e) (fun r => bnd (asBool r) fun k => if k = true then kC Φ .nil else ret false) ρ = _
  rw [bnd_at h]
  show (if k = true then kC Φ .nil else ret false) ρ1 = _
  cases k <;> rfl
theorem kT_of {k nw : Bool} (h : kv Φ e ρ = .ok (.bool k, nw) ρ1) : kT (kv Φ e) ρ = .ok k ρ1 := by
  unfold kT
  rw [h]
theorem kI_rng1 {n : Nat} {nw : Bool} (h : kv Φ e ρ = .ok (.int n, nw) ρ1) (hn : n ≤ 1000000) : kI Φ (.rng1 e) ρ = .ok (rangeD 0 n) ρ1 := by
  show bnd (kv Φ e) _ ρ = _
  rw [bnd_at h]
  show (if smallIx (n : Int) = true then ret (rangeD 0 (n : Int).toNat) else fun _ => .bad) ρ1 = _
  rw [if_pos (by unfold smallIx; rw [decide_eq_true_eq]; omega)]
  rfl
theorem kI_list {nw : Bool} (h : kv Φ e ρ = .ok (.list xs, nw) ρ1) : kI Φ (.seq e) ρ = .ok xs ρ1 := by
  show bnd (kv Φ e) _ ρ = _
  rw [bnd_at h]
  rfl
theorem kI_tup {nw : Bool} (h : kv Φ e ρ = .ok (.tuple xs, nw) ρ1) : kI Φ (.seq e) ρ = .ok xs ρ1 := by
  show bnd (kv Φ e) _ ρ = _
  rw [bnd_at h]
  rfl

/-! ### blocks -/
theorem wpLen (ρ : Env) : ∀ vs, (wipeE ρ vs).length = ρ.length
  | [] => rfl
  | v :: vs => by
    show ((wipeE ρ vs).set v none).length = _
    rw [List.length_set, wpLen ρ vs]
theorem wpGet (ρ : Env) (i : Nat) : ∀ vs, (wipeE ρ vs)[i]? = if i ∈ vs ∧ i < ρ.length then some none else ρ[i]?
  | [] => by simp [wipeE]
  | v :: vs => by
    show ((wipeE ρ vs).set v none)[i]? = _
    rw [List.getElem?_set, wpLen, wpGet ρ i vs]
    by_cases h : v = i
    · subst h
      by_cases h2 : v < ρ.length
      · simp [h2]
      · simp [h2]
    · have h' : ¬ i = v := fun z => h z.symm
      simp [h, h']
theorem back_len (ρ ρ' : Env) : ∀ vs, (backE ρ ρ' vs).length = ρ'.length
  | [] => rfl
  | v :: vs => by
    show ((backE ρ ρ' vs).set v (ρ.getD v none)).length = _
    rw [List.length_set, back_len ρ ρ' vs]
theorem back_get (ρ ρ' : Env) (i : Nat) : ∀ vs, (backE ρ ρ' vs)[i]? = if i ∈ vs ∧ i < ρ'.length then some (ρ.getD i none) else ρ'[i]?
  | [] => by simp [backE]
  | v :: vs => by
    show ((backE ρ ρ' vs).set v (ρ.getD v none))[i]? = _
    rw [List.getElem?_set, back_len, back_get ρ ρ' i vs]
    by_cases h : v = i
    · subst h
      by_cases h2 : v < ρ'.length
      · simp [h2]
      · simp [h2]
    · have h' : ¬ i = v := fun z => h z.symm
      simp [h, h']
theorem back_wipe (ρ : Env) (vs : List Nat) : backE ρ (wipeE ρ vs) vs = ρ := by
  refine List.ext_getElem? fun i => ?_
  rw [back_get, wpGet, wpLen]
  by_cases h : i ∈ vs ∧ i < ρ.length
  · rw [if_pos h, List.getD_eq_getElem?_getD, List.getElem?_eq_getElem h.2]
    rfl
  · rw [if_neg h, if_neg h]
theorem noOwn_wipe {ρ : Env} {vs : List Nat} (h : noOwn ρ vs = true) : noOwn (wipeE ρ vs) vs = true := by
  unfold noOwn at h ⊢
  rw [List.all_eq_true] at h ⊢
  intro v hv
  have z := h v hv
  rw [wpGet]
  cases q : ρ[v]? with
  | none => rw [q] at z; simp at z
  | some x =>
    have hl : v < ρ.length := (List.getElem?_eq_some_iff.mp q).1
    rw [if_pos ⟨hv, hl⟩]
theorem each_inv {own : List Nat} {f : D → M (Option D)} {g : D → Option D} {J : Env → Prop} : ∀ xs : List D, (∀ ρ, J ρ → ∀ x ∈ xs, ∃ ρ', f x ρ = .ok (g x) ρ' ∧ noOwn ρ' own = true ∧ J (wipeE ρ' own)) → ∀ ρ, J ρ → ∃ ρe, each own f xs ρ = .ok (xs.filterMap g) ρe ∧ J ρe
  | [], _, ρ, j => ⟨ρ, rfl, j⟩
  | x :: xs, h, ρ, j => by
    obtain ⟨ρ', h1, h2, h3⟩ := h ρ j x (.head _)
    obtain ⟨ρe, h4, h5⟩ := each_inv xs (fun ρ j y hy => h ρ j y (.tail _ hy)) _ h3
    refine ⟨ρe, ?_, h5⟩
    show bnd (f x) _ ρ = _
    rw [bnd_at h1, if_pos h2, bnd_at h4]
    cases q : g x with
    | none => rw [List.filterMap_cons_none q]; rfl
    | some d => rw [List.filterMap_cons_some q]; rfl
/-- an env that differs from ρ in own's names alone, and there holds no list of its own -/
def Amid (ρ : Env) (own : List Nat) (ρ' : Env) : Prop := noOwn ρ' own = true ∧ wipeE ρ' own = wipeE ρ own
theorem each_pure {own : List Nat} {f : D → M (Option D)} {g : D → Option D} {ρ : Env} : ∀ xs : List D, (∀ x ∈ xs, ∃ ρ', f x (wipeE ρ own) = .ok (g x) ρ' ∧ Amid ρ own ρ') → each own f xs (wipeE ρ own) = .ok (xs.filterMap g) (wipeE ρ own)
  | [], _ => rfl
  | x :: xs, h => by
    obtain ⟨ρ', h1, h2, h3⟩ := h x (.head _)
    have ih := each_pure xs fun y hy => h y (.tail _ hy)
    show bnd (f x) _ (wipeE ρ own) = _
    rw [bnd_at h1, if_pos h2, h3, bnd_at ih]
    cases q : g x with
    | none => rw [List.filterMap_cons_none q]; rfl
    | some d => rw [List.filterMap_cons_some q]; rfl
theorem blk_pure {α : Type} {own : List Nat} {m : M α} {a : α} {ρ : Env} (h0 : noOwn ρ own = true) (h : m (wipeE ρ own) = .ok a (wipeE ρ own)) : blk own m ρ = .ok a ρ := by
  unfold blk
  rw [if_pos h0, h]
  simp only
  rw [if_pos (noOwn_wipe h0), back_wipe]
theorem blk_at {α : Type} {own : List Nat} {m : M α} {a : α} {ρ ρ' : Env} (h0 : noOwn ρ own = true) (h : m (wipeE ρ own) = .ok a ρ') (h1 : noOwn ρ' own = true) : blk own m ρ = .ok a (backE ρ ρ' own) := by
  unfold blk
  rw [if_pos h0, h]
  simp only
  rw [if_pos h1]
theorem comp_pure {own : List Nat} {f : D → M (Option D)} {g : D → Option D} {ρ : Env} (xs : List D) (h0 : noOwn ρ own = true) (h : ∀ x ∈ xs, ∃ ρ', f x (wipeE ρ own) = .ok (g x) ρ' ∧ Amid ρ own ρ') : blk own (each own f xs) ρ = .ok (xs.filterMap g) ρ :=
  blk_pure h0 (each_pure xs h)
theorem kv_comp {own : List Nat} {ifs : Exs} {g : D → Option D} (hi : kI Φ it ρ = .ok xs ρ1) (hl : xs.length ≤ 1000000) (h0 : noOwn ρ1 own = true)
    (h : ∀ x ∈ xs, ∃ ρ', bnd (setTg t (x, false)) (fun _ => bnd (kC Φ ifs) fun k => if k = true then bnd (kv Φ e) fun r => ret (some r.1) else ret none) (wipeE ρ1 own) = .ok (g x) ρ' ∧ Amid ρ1 own ρ') :
    kv Φ (.comp own t it ifs e) ρ = .ok (.list (xs.filterMap g), true) ρ1 := by
  show bnd (kI Φ it) _ ρ = _
  rw [bnd_at hi]
  have hf : fewD xs ρ1 = .ok () ρ1 := by
    unfold fewD
    rw [if_pos hl]
  rw [bnd_at hf, bnd_at (comp_pure xs h0 h)]
  rfl
/-- any(..), all(..), sum(..) of a generator expression -/
def seekD (g : D → Option D) (stop : D → Bool) : List D → List D
  | [] => []
  | x :: xs => match g x with
    | some d => if stop d = true then [d] else d :: seekD g stop xs
    | none => seekD g stop xs
theorem amid_wipe {own : List Nat} {ρ : Env} (h0 : noOwn ρ own = true) : Amid ρ own (wipeE ρ own) := ⟨noOwn_wipe h0, by
  refine List.ext_getElem? fun i => ?_
  rw [wpGet, wpLen, wpGet]
  by_cases h : i ∈ own ∧ i < ρ.length
  · rw [if_pos h, if_pos h]
  · rw [if_neg h]⟩
theorem back_amid {own : List Nat} {ρ ρ' : Env} (h : Amid ρ own ρ') : backE ρ ρ' own = ρ := by
  have hl : ρ'.length = ρ.length := by
    have z := congrArg List.length h.2
    rwa [wpLen, wpLen] at z
  refine List.ext_getElem? fun i => ?_
  rw [back_get, hl]
  by_cases q : i ∈ own ∧ i < ρ.length
  · rw [if_pos q, List.getD_eq_getElem?_getD, List.getElem?_eq_getElem q.2]
    rfl
  · rw [if_neg q]
    have z := congrArg (fun l : Env => l[i]?) h.2
    rwa [wpGet, wpGet, hl, if_neg q, if_neg q] at z
theorem seek_pure {own : List Nat} {f : D → M (Option D)} {g : D → Option D} {stop : D → Bool} {ρ : Env} (h0 : noOwn ρ own = true) : ∀ xs : List D, (∀ x ∈ xs, ∃ ρ', f x (wipeE ρ own) = .ok (g x) ρ' ∧ Amid ρ own ρ') → ∃ ρ', seek own f stop xs (wipeE ρ own) = .ok (seekD g stop xs) ρ' ∧ Amid ρ own ρ'
  | [], _ => ⟨wipeE ρ own, rfl, amid_wipe h0⟩
  | x :: xs, h => by
    obtain ⟨ρ', h1, h2, h3⟩ := h x (.head _)
    obtain ⟨ρe, h4, h5⟩ := seek_pure (stop := stop) h0 xs fun y hy => h y (.tail _ hy)
    show ∃ ρ', bnd (f x) _ (wipeE ρ own) = .ok (match g x with
      | some d => if stop d = true then [d] else d :: seekD g stop xs
      | none => seekD g stop xs) ρ' ∧ Amid ρ own ρ'
    rw [bnd_at h1, if_pos h2]
    cases q : g x with
    | none =>
      simp only
      rw [h3]
      exact ⟨ρe, h4, h5⟩
    | some d =>
      simp only
      by_cases z : stop d = true
      · rw [if_pos z, if_pos z]
        exact ⟨ρ', rfl, h2, h3⟩
      · rw [if_neg z, if_neg z, h3, bnd_at h4]
        exact ⟨ρe, rfl, h5⟩
theorem gen_pure {own : List Nat} {f : D → M (Option D)} {g : D → Option D} {stop : D → Bool} {ρ : Env} (xs : List D) (h0 : noOwn ρ own = true) (h : ∀ x ∈ xs, ∃ ρ', f x (wipeE ρ own) = .ok (g x) ρ' ∧ Amid ρ own ρ') : blk own (seek own f stop xs) ρ = .ok (seekD g stop xs) ρ := by
  obtain ⟨ρ', h1, h2⟩ := seek_pure (stop := stop) h0 xs h
  unfold blk
  rw [if_pos h0, h1]
  simp only
  rw [if_pos h2.1, back_amid h2]
theorem seek_any (g : D → Option D) : ∀ xs, (seekD g isT xs).any isT = xs.any fun x => (g x).any isT
  | [] => rfl
  | x :: xs => by
    rw [List.any_cons, seekD]
    cases g x with
    | none => simp only [Option.any_none, Bool.false_or]; exact seek_any g xs
    | some d =>
      simp only [Option.any_some]
      cases q : isT d with
      | true => simp [q]
      | false => simp [q, seek_any g xs]
theorem seek_all' (g : D → Option D) : ∀ xs, (seekD g (fun d => !isT d) xs).all isT = xs.all fun x => (g x).all isT
  | [] => rfl
  | x :: xs => by
    rw [List.all_cons, seekD]
    cases g x with
    | none => simp only [Option.all_none, Bool.true_and]; exact seek_all' g xs
    | some d =>
      simp only [Option.all_some]
      cases q : isT d with
      | false => simp [q]
      | true => simp [q, seek_all' g xs]
theorem seek_sum (g : D → Option D) : ∀ xs, seekD g (fun _ => false) xs = xs.filterMap g
  | [] => rfl
  | x :: xs => by
    rw [seekD]
    cases q : g x with
    | none => rw [List.filterMap_cons_none q]; exact seek_sum g xs
    | some d => rw [List.filterMap_cons_some q, ← seek_sum g xs]; simp
theorem kv_any {own : List Nat} {ifs : Exs} {g : D → Option D} (hi : kI Φ it ρ = .ok xs ρ1) (h0 : noOwn ρ1 own = true)
    (h : ∀ x ∈ xs, ∃ ρ', bnd (setTg t (x, false)) (fun _ => bnd (kC Φ ifs) fun k => if k = true then bnd (kv Φ e) fun r => bnd (asBool r) fun _ => ret (some r.1) else ret none) (wipeE ρ1 own) = .ok (g x) ρ' ∧ Amid ρ1 own ρ') :
    kv Φ (.gen .any own t it ifs e) ρ = .ok (.bool (xs.any fun x => (g x).any isT), false) ρ1 := by
  show bnd (kI Φ it) _ ρ = _
  rw [bnd_at hi, ← seek_any]
  exact (bnd_at (gen_pure (stop := isT) xs h0 h)).trans rfl
theorem kv_all {own : List Nat} {ifs : Exs} {g : D → Option D} (hi : kI Φ it ρ = .ok xs ρ1) (h0 : noOwn ρ1 own = true)
    (h : ∀ x ∈ xs, ∃ ρ', bnd (setTg t (x, false)) (fun _ => bnd (kC Φ ifs) fun k => if k = true then bnd (kv Φ e) fun r => bnd (asBool r) fun _ => ret (some r.1) else ret none) (wipeE ρ1 own) = .ok (g x) ρ' ∧ Amid ρ1 own ρ') :
    kv Φ (.gen .all own t it ifs e) ρ = .ok (.bool (xs.all fun x => (g x).all isT), false) ρ1 := by
  show bnd (kI Φ it) _ ρ = _
  rw [bnd_at hi, ← seek_all']
  exact (bnd_at (gen_pure (stop := fun d => !isT d) xs h0 h)).trans rfl
theorem kv_sum {own : List Nat} {ifs : Exs} {g : D → Option D} {n : Int} (hi : kI Φ it ρ = .ok xs ρ1) (h0 : noOwn ρ1 own = true)
    (h : ∀ x ∈ xs, ∃ ρ', bnd (setTg t (x, false)) (fun _ => bnd (kC Φ ifs) fun k => if k = true then bnd (kv Φ e) fun r => (match r.1 with
      | .int _ => ret (some r.1)
      | _ => fun _ => .bad) else ret none) (wipeE ρ1 own) = .ok (g x) ρ' ∧ Amid ρ1 own ρ') (hn : sumInts (xs.filterMap g) = some n) :
    kv Φ (.gen .sum own t it ifs e) ρ = .ok (.int n, false) ρ1 := by
  show bnd (kI Φ it) _ ρ = _
  rw [bnd_at hi]
  refine (bnd_at (gen_pure (stop := fun _ => false) xs h0 h)).trans ?_
  rw [seek_sum]
  show bnd (lft (sumInts (xs.filterMap g))) _ ρ1 = _
  rw [hn]
  rfl
end
end Ty
set_option autoImplicit false
set_option maxHeartbeats 200000
/-! T15: tables of answers that are known. -/
namespace Ty
open PySem
def argEq : List D → List Sl → Bool
  | [], [] => true
  | d :: ds, .fro e :: ss => sameD d e && argEq ds ss
  | _, _ => false
theorem arg_eq : ∀ (ds : List D) (ss : List Sl), argEq ds ss = true → ss = ds.map .fro
  | [], [], _ => rfl
  | [], _ :: _, h => by cases h
  | _ :: _, [], h => by cases h
  | d :: ds, .own b e :: ss, h => by cases h
  | d :: ds, .fro e :: ss, h => by
    obtain ⟨h1, h2⟩ := Bool.and_eq_true_iff.mp h
    rw [same_eq d e h1, arg_eq ds ss h2]
    rfl
/-- the arguments, the value, whether it is a new list -/
abbrev Ent := List D × D × Bool
abbrev TabE := List (Str × List Ent)
def entO (es : List Ent) (ss : List Sl) : Option FOut := match es with
  | [] => none
  | e :: r => if argEq e.1 ss = true then some (.ok e.2 ss) else entO r ss
def tabO : TabE → Ora
  | [], _, _ => none
  | p :: r, f, ss => if decide (f = p.1) = true then entO p.2 ss else tabO r f ss
def chkE (Φ : Fns) (f : Str) (e : Ent) : Bool := match Φ f (e.1.map .fro) with
  | .ok r ps => sameD r.1 e.2.1 && (r.2 == e.2.2 && argEq e.1 ps)
  | .bad => false
def chkT (Φ : Fns) (T : TabE) : Bool := T.all fun p => p.2.all fun e => chkE Φ p.1 e
theorem chk_ok {Φ : Fns} {f : Str} {e : Ent} (h : chkE Φ f e = true) : Φ f (e.1.map .fro) = .ok e.2 (e.1.map .fro) := by
  unfold chkE at h
  split at h
  · rename_i r ps q
    obtain ⟨h1, h2⟩ := Bool.and_eq_true_iff.mp h
    obtain ⟨h3, h4⟩ := Bool.and_eq_true_iff.mp h2
    rw [q, arg_eq _ _ h4]
    obtain ⟨d, nw⟩ := r
    rw [show d = e.2.1 from same_eq _ _ h1, show nw = e.2.2 from beq_iff_eq.mp h3]
  · cases h
theorem ent_in {es : List Ent} {ss ps : List Sl} {r : R} (h : entO es ss = some (.ok r ps)) : ∃ e ∈ es, ss = e.1.map .fro ∧ r = e.2 ∧ ps = ss := by
  induction es with
  | nil => cases h
  | cons e l ih =>
    unfold entO at h
    split at h
    · rename_i q
      cases h
      exact ⟨e, .head _, arg_eq _ _ q, rfl, rfl⟩
    · obtain ⟨x, hx, z⟩ := ih h
      exact ⟨x, .tail _ hx, z⟩
theorem tab_in {T : TabE} {f : Str} {ss ps : List Sl} {r : R} (h : tabO T f ss = some (.ok r ps)) : ∃ p ∈ T, f = p.1 ∧ ∃ e ∈ p.2, ss = e.1.map .fro ∧ r = e.2 ∧ ps = ss := by
  induction T with
  | nil => cases h
  | cons p l ih =>
    unfold tabO at h
    split at h
    · rename_i q
      exact ⟨p, .head _, of_decide_eq_true q, ent_in h⟩
    · obtain ⟨x, hx, z⟩ := ih h
      exact ⟨x, .tail _ hx, z⟩
section
variable {tab : Str → Option Df} {P : Pars} {O O' : Ora} {k0 k1 k : Nat}
theorem OraOk.up (h : OraOk tab P O k0) (hk : k0 ≤ k1) : OraOk tab P O k1 := fun f ss r ps e => by
  obtain ⟨j, rfl⟩ := Nat.le.dest hk
  exact run_more (h f ss r ps e) j
theorem tab_ok {T : TabE} (hO : OraOk tab P O k0) (h : chkT (kRun tab O k) T = true) : OraOk tab P (tabO T) (k + k0) := fun f ss r ps e => by
  obtain ⟨p, hp, rfl, x, hx, rfl, rfl, rfl⟩ := tab_in e
  exact kRun_le hO k _ _ _ _ (chk_ok (List.all_eq_true.mp (List.all_eq_true.mp h p hp) x hx))
def orO (O O' : Ora) : Ora := fun f ss => match O f ss with
  | some r => some r
  | none => O' f ss
theorem or_ok (h : OraOk tab P O k0) (h' : OraOk tab P O' k0) : OraOk tab P (orO O O') k0 := fun f ss r ps e => by
  unfold orO at e
  cases q : O f ss with
  | some x =>
    rw [q] at e
    simp only at e
    rw [e] at q
    exact h f ss r ps q
  | none =>
    rw [q] at e
    exact h' f ss r ps e
theorem run_of {f : Str} {d : Df} {ss ps : List Sl} {r : R} (ht : tab f = some d) (h : kD (run tab P k) d ss = .ok r ps) : run tab P (k + 1) f ss = .ok r ps := by
  show (match tab f with
    | some d => runD (run tab P k) P d ss
    | none => FOut.bad) = _
  rw [ht]
  exact kD_le (P := P) (fun _ _ _ _ z => z) d ss r ps h
end
def natD : D → Option Nat
  | .int (.ofNat n) => some n
  | _ => none
def natsD : List D → Option (List Nat)
  | [] => some []
  | d :: ds => match natD d with
    | some n => (match natsD ds with
      | some ns => some (n :: ns)
      | none => none)
    | none => none
theorem natD_eq {d : D} {n : Nat} (h : natD d = some n) : d = .int (n : Int) := by
  unfold natD at h
  split at h
  · cases h; rfl
  · cases h
theorem natsD_eq : ∀ {ds : List D} {ns : List Nat}, natsD ds = some ns → ds = ns.map fun n => .int (n : Int)
  | [], _, h => by cases h; rfl
  | d :: ds, ns, h => by
    unfold natsD at h
    split at h
    · rename_i n q
      split at h
      · rename_i ms q2
        cases h
        rw [natD_eq q, natsD_eq q2]
        rfl
      · cases h
    · cases h
end Ty
set_option autoImplicit false
set_option maxHeartbeats 0
namespace Wk
open PySem PySem.Spec PyProof.Rows L2 GxR Ty
def top (i : Nat) : Stmt := PySem.Challenge.pw_twovalues_k92_whole_sizes_of_kinds.main.body.getD i (.Pass ⟨0, 0, 0, 0⟩)
def w_KINDS : PyData := (.tuple [(.str "values"), (.str "order"), (.str "unlike"), (.str "or2"), (.str "or2order"), (.str "and2"), (.str "and2order"), (.str "pairs"), (.str "or3"), (.str "or3order"), (.str "and3"), (.str "and3order"), (.str "or4"), (.str "or4order"), (.str "and4"), (.str "and4order"), (.str "sums"), (.str "joins"), (.str "meets"), (.str "all")])
def w_MOST_COUNTED : PyData := (.int 3)
def w_MOST_LISTED : PyData := (.int 2)
def w_MOST_PLACES : PyData := (.int 4)
def w_MOST_ROWS : PyData := (.int 16)
def w_ORDERED : PyData := (.tuple [(.str "order"), (.str "or2order"), (.str "or3order"), (.str "or4order"), (.str "and2order"), (.str "and3order"), (.str "and4order")])
def t_FALLING : List (PySem.Str × PyData) := [("and2", (.int 2)), ("and2order", (.int 2)), ("and3", (.int 3)), ("and3order", (.int 3)), ("and4", (.int 4)), ("and4order", (.int 4))]
def t_RISING : List (PySem.Str × PyData) := [("or2", (.int 2)), ("or2order", (.int 2)), ("or3", (.int 3)), ("or3order", (.int 3)), ("or4", (.int 4)), ("or4order", (.int 4))]
def N_is_integer : List PySem.Str := ["thing"]
def p_is_integer : List PySem.Str := ["thing"]
def D_is_integer : Df := ⟨1, 1, (.cons (.ret (.and (.isi (.var 0) "int") (.not (.isi (.var 0) "bool")))) .nil)⟩
def N_is_within : List PySem.Str := ["thing", "low", "high"]
def p_is_within : List PySem.Str := ["thing", "low", "high"]
def D_is_within : Df := ⟨3, 3, (.cons (.ret (.and (.call "is_integer" (.val (.var 0) .nil)) (.chain .le .le (.var 1) (.var 0) (.var 2)))) .nil)⟩
def N_is_value : List PySem.Str := ["thing"]
def p_is_value : List PySem.Str := ["thing"]
def D_is_value : Df := ⟨1, 1, (.cons (.ret (.call "is_within" (.val (.var 0) (.val (.con (.int 0)) (.val (.con (.int 1)) .nil))))) .nil)⟩
def N_is_row : List PySem.Str := ["thing", "length", "one"]
def p_is_row : List PySem.Str := ["thing", "length"]
def D_is_row : Df := ⟨2, 3, (.cons (.ret (.and (.isi (.var 0) "tuple") (.and (.prim .eq (.cons (.prim (.bi "len") (.cons (.var 0) .nil)) (.cons (.var 1) .nil))) (.gen .all [2] (.nm 2) (.seq (.var 0)) .nil (.call "is_value" (.val (.var 2) .nil)))))) .nil)⟩
def N_is_rising : List PySem.Str := ["things", "one", "two"]
def p_is_rising : List PySem.Str := ["things"]
def D_is_rising : Df := ⟨1, 3, (.cons (.ret (.gen .all [1, 2] (.tp [1, 2]) (.zip (.var 0) (.prim (.sl true false) (.cons (.var 0) (.cons (.con (.int 1)) .nil)))) .nil (.prim .lt (.cons (.var 1) (.cons (.var 2) .nil))))) .nil)⟩
def N_is_tuple_of : List PySem.Str := ["thing", "least", "most"]
def p_is_tuple_of : List PySem.Str := ["thing", "least", "most"]
def D_is_tuple_of : Df := ⟨3, 3, (.cons (.ret (.and (.isi (.var 0) "tuple") (.chain .le .le (.var 1) (.prim (.bi "len") (.cons (.var 0) .nil)) (.var 2)))) .nil)⟩
def N_is_word : List PySem.Str := ["thing", "words"]
def p_is_word : List PySem.Str := ["thing", "words"]
def D_is_word : Df := ⟨2, 2, (.cons (.ret (.and (.isi (.var 0) "str") (.prim .isin (.cons (.var 0) (.cons (.var 1) .nil))))) .nil)⟩
def N_need_number : List PySem.Str := ["thing", "low", "high"]
def p_need_number : List PySem.Str := ["thing", "low", "high"]
def D_need_number : Df := ⟨3, 3, (.cons (.ifs (.not (.call "is_within" (.val (.var 0) (.val (.var 1) (.val (.var 2) .nil))))) (.cons .rais .nil) .nil) .nil)⟩
def N_code_of : List PySem.Str := ["row", "found", "value"]
def p_code_of : List PySem.Str := ["row"]
def D_code_of : Df := ⟨1, 3, (.cons (.asg (.nm 1) (.con (.int 0))) (.cons (.for (.nm 2) (.seq (.var 0)) (.cons (.asg (.nm 1) (.prim .add (.cons (.prim .mul (.cons (.var 1) (.cons (.con (.int 2)) .nil))) (.cons (.var 2) .nil)))) .nil)) (.cons (.ret (.var 1)) .nil)))⟩
def N_row_of : List PySem.Str := ["code", "length", "at"]
def p_row_of : List PySem.Str := ["code", "length"]
def D_row_of : Df := ⟨2, 3, (.cons (.ret (.prim (.bi "tuple") (.cons (.comp [2] (.nm 2) (.rng1 (.var 1)) .nil (.prim .band (.cons (.prim .shr (.cons (.var 0) (.cons (.prim .sub (.cons (.prim .sub (.cons (.var 1) (.cons (.con (.int 1)) .nil))) (.cons (.var 2) .nil))) .nil))) (.cons (.con (.int 1)) .nil)))) .nil))) .nil)⟩
def N_all_rows : List PySem.Str := ["length", "code"]
def p_all_rows : List PySem.Str := ["length"]
def D_all_rows : Df := ⟨1, 2, (.cons (.ret (.comp [1] (.nm 1) (.rng1 (.prim .shl (.cons (.con (.int 1)) (.cons (.var 0) .nil)))) .nil (.call "row_of" (.val (.var 1) (.val (.var 0) .nil))))) .nil)⟩
def N_is_relation_form : List PySem.Str := ["thing", "row"]
def p_is_relation_form : List PySem.Str := ["thing"]
def D_is_relation_form : Df := ⟨1, 2, (.cons (.ifs (.or (.not (.call "is_tuple_of" (.val (.var 0) (.val (.con (.int 2)) (.val (.con (.int 2)) .nil))))) (.not (.call "is_within" (.val (.prim .idx (.cons (.var 0) (.cons (.con (.int 0)) .nil))) (.val (.con (.int 0)) (.val (.glb "MOST_PLACES" w_MOST_PLACES) .nil)))))) (.cons (.ret (.con (.bool false))) .nil) .nil) (.cons (.ifs (.not (.call "is_tuple_of" (.val (.prim .idx (.cons (.var 0) (.cons (.con (.int 1)) .nil))) (.val (.con (.int 0)) (.val (.glb "MOST_ROWS" w_MOST_ROWS) .nil))))) (.cons (.ret (.con (.bool false))) .nil) .nil) (.cons (.ret (.and (.gen .all [1] (.nm 1) (.seq (.prim .idx (.cons (.var 0) (.cons (.con (.int 1)) .nil)))) .nil (.call "is_row" (.val (.var 1) (.val (.prim .idx (.cons (.var 0) (.cons (.con (.int 0)) .nil))) .nil)))) (.call "is_rising" (.val (.prim .idx (.cons (.var 0) (.cons (.con (.int 1)) .nil))) .nil)))) .nil)))⟩
def N_need_relation : List PySem.Str := ["thing"]
def p_need_relation : List PySem.Str := ["thing"]
def D_need_relation : Df := ⟨1, 1, (.cons (.ifs (.not (.call "is_relation_form" (.val (.var 0) .nil))) (.cons .rais .nil) .nil) .nil)⟩
def N_mask_of : List PySem.Str := ["relation", "found", "row"]
def p_mask_of : List PySem.Str := ["relation"]
def D_mask_of : Df := ⟨1, 3, (.cons (.asg (.nm 1) (.con (.int 0))) (.cons (.for (.nm 2) (.seq (.prim .idx (.cons (.var 0) (.cons (.con (.int 1)) .nil)))) (.cons (.aug 1 .bor (.prim .shl (.cons (.con (.int 1)) (.cons (.call "code_of" (.val (.var 2) .nil)) .nil)))) .nil)) (.cons (.ret (.var 1)) .nil)))⟩
def N_relation_of : List PySem.Str := ["places", "mask", "code"]
def p_relation_of : List PySem.Str := ["places", "mask"]
def D_relation_of : Df := ⟨2, 3, (.cons (.ret (.tup (.cons (.var 0) (.cons (.prim (.bi "tuple") (.cons (.comp [2] (.nm 2) (.rng1 (.prim .shl (.cons (.con (.int 1)) (.cons (.var 0) .nil)))) (.cons (.prim .eq (.cons (.prim .band (.cons (.prim .shr (.cons (.var 1) (.cons (.var 2) .nil))) (.cons (.con (.int 1)) .nil))) (.cons (.con (.int 1)) .nil))) .nil) (.call "row_of" (.val (.var 2) (.val (.var 0) .nil)))) .nil)) .nil)))) .nil)⟩
def N_full_mask : List PySem.Str := ["places"]
def p_full_mask : List PySem.Str := ["places"]
def D_full_mask : Df := ⟨1, 1, (.cons (.ret (.prim .sub (.cons (.prim .shl (.cons (.con (.int 1)) (.cons (.prim .shl (.cons (.con (.int 1)) (.cons (.var 0) .nil))) .nil))) (.cons (.con (.int 1)) .nil)))) .nil)⟩
def N_holds_to : List PySem.Str := ["row", "clause", "place", "value"]
def p_holds_to : List PySem.Str := ["row", "clause"]
def D_holds_to : Df := ⟨2, 4, (.cons (.ret (.gen .any [2, 3] (.tp [2, 3]) (.seq (.var 1)) .nil (.prim .eq (.cons (.prim .idx (.cons (.var 0) (.cons (.var 2) .nil))) (.cons (.var 3) .nil))))) .nil)⟩
def N_all_clauses : List PySem.Str := ["places", "found", "place", "clause", "value"]
def p_all_clauses : List PySem.Str := ["places"]
def D_all_clauses : Df := ⟨1, 5, (.cons (.asg (.nm 1) (.lst (.cons (.tup .nil) .nil))) (.cons (.for (.nm 2) (.rng1 (.var 0)) (.cons (.asg (.nm 1) (.prim .add (.cons (.var 1) (.cons (.comp2 [3, 4] [4] (.nm 3) (.seq (.var 1)) .nil (.nm 4) (.seq (.tup (.cons (.con (.int 0)) (.cons (.con (.int 1)) .nil)))) .nil (.prim .add (.cons (.var 3) (.cons (.tup (.cons (.tup (.cons (.var 2) (.cons (.var 4) .nil))) .nil)) .nil)))) .nil)))) .nil)) (.cons (.ret (.prim (.bi "sorted") (.cons (.var 1) .nil))) .nil)))⟩
def N_noughts_in : List PySem.Str := ["clause", "place", "value"]
def p_noughts_in : List PySem.Str := ["clause"]
def D_noughts_in : Df := ⟨1, 3, (.cons (.ret (.prim (.bi "len") (.cons (.comp [1, 2] (.tp [1, 2]) (.seq (.var 0)) (.cons (.prim .eq (.cons (.var 2) (.cons (.con (.int 0)) .nil))) .nil) (.con (.int 1))) .nil))) .nil)⟩
def N_ones_in : List PySem.Str := ["clause"]
def p_ones_in : List PySem.Str := ["clause"]
def D_ones_in : Df := ⟨1, 1, (.cons (.ret (.prim .sub (.cons (.prim (.bi "len") (.cons (.var 0) .nil)) (.cons (.call "noughts_in" (.val (.var 0) .nil)) .nil)))) .nil)⟩
def N_row_sum : List PySem.Str := ["row", "places", "place"]
def p_row_sum : List PySem.Str := ["row", "places"]
def D_row_sum : Df := ⟨2, 3, (.cons (.ret (.prim .mod (.cons (.gen .sum [2] (.nm 2) (.seq (.var 1)) .nil (.prim .idx (.cons (.var 0) (.cons (.var 2) .nil)))) (.cons (.con (.int 2)) .nil)))) .nil)⟩
def N_fits_equation : List PySem.Str := ["row", "equation"]
def p_fits_equation : List PySem.Str := ["row", "equation"]
def D_fits_equation : Df := ⟨2, 2, (.cons (.ret (.prim .eq (.cons (.call "row_sum" (.val (.var 0) (.val (.prim .idx (.cons (.var 1) (.cons (.con (.int 0)) .nil))) .nil))) (.cons (.prim .idx (.cons (.var 1) (.cons (.con (.int 1)) .nil))) .nil)))) .nil)⟩
def N_all_equations : List PySem.Str := ["places", "found", "place", "some", "value"]
def p_all_equations : List PySem.Str := ["places"]
def D_all_equations : Df := ⟨1, 5, (.cons (.asg (.nm 1) (.lst (.cons (.tup .nil) .nil))) (.cons (.for (.nm 2) (.rng1 (.var 0)) (.cons (.asg (.nm 1) (.prim .add (.cons (.var 1) (.cons (.comp [3] (.nm 3) (.seq (.var 1)) .nil (.prim .add (.cons (.var 3) (.cons (.tup (.cons (.var 2) .nil)) .nil)))) .nil)))) .nil)) (.cons (.ret (.comp2 [3, 4] [4] (.nm 3) (.seq (.prim (.bi "sorted") (.cons (.var 1) .nil))) .nil (.nm 4) (.seq (.tup (.cons (.con (.int 0)) (.cons (.con (.int 1)) .nil)))) .nil (.tup (.cons (.var 3) (.cons (.var 4) .nil))))) .nil)))⟩
def N_need_kind : List PySem.Str := ["thing"]
def p_need_kind : List PySem.Str := ["thing"]
def D_need_kind : Df := ⟨1, 1, (.cons (.ifs (.not (.call "is_word" (.val (.var 0) (.val (.glb "KINDS" w_KINDS) .nil)))) (.cons .rais .nil) .nil) .nil)⟩
def N_lets_clause : List PySem.Str := ["kind", "clause", "many", "noughts", "ones"]
def p_lets_clause : List PySem.Str := ["kind", "clause"]
def D_lets_clause : Df := ⟨2, 5, (.cons (.par3 2 3 4 (.prim (.bi "len") (.cons (.var 1) .nil)) (.call "noughts_in" (.val (.var 1) .nil)) (.call "ones_in" (.val (.var 1) .nil))) (.cons (.ifs (.or (.prim .lt (.cons (.var 2) (.cons (.con (.int 2)) .nil))) (.prim .eq (.cons (.var 0) (.cons (.con (.str "all")) .nil)))) (.cons (.ret (.con (.bool true))) .nil) .nil) (.cons (.ifs (.prim .eq (.cons (.var 0) (.cons (.con (.str "pairs")) .nil))) (.cons (.ret (.prim .eq (.cons (.var 2) (.cons (.con (.int 2)) .nil)))) .nil) .nil) (.cons (.ifs (.prim .eq (.cons (.var 0) (.cons (.con (.str "joins")) .nil))) (.cons (.ret (.prim .lt (.cons (.var 3) (.cons (.con (.int 2)) .nil)))) .nil) .nil) (.cons (.ifs (.prim .eq (.cons (.var 0) (.cons (.con (.str "meets")) .nil))) (.cons (.ret (.prim .lt (.cons (.var 4) (.cons (.con (.int 2)) .nil)))) .nil) .nil) (.cons (.ifs (.and (.prim .eq (.cons (.var 3) (.cons (.con (.int 1)) .nil))) (.prim .eq (.cons (.var 4) (.cons (.con (.int 1)) .nil)))) (.cons (.ret (.prim .isin (.cons (.var 0) (.cons (.glb "ORDERED" w_ORDERED) .nil)))) .nil) .nil) (.cons (.ret (.or (.and (.prim .eq (.cons (.var 3) (.cons (.con (.int 0)) .nil))) (.prim .le (.cons (.var 2) (.cons (.kget "RISING" t_RISING (.var 0) (.con (.int 0))) .nil)))) (.and (.prim .eq (.cons (.var 4) (.cons (.con (.int 0)) .nil))) (.prim .le (.cons (.var 2) (.cons (.kget "FALLING" t_FALLING (.var 0) (.con (.int 0))) .nil)))))) .nil)))))))⟩
def N_lets_equation : List PySem.Str := ["kind", "equation"]
def p_lets_equation : List PySem.Str := ["kind", "equation"]
def D_lets_equation : Df := ⟨2, 2, (.cons (.ifs (.prim .eq (.cons (.var 0) (.cons (.con (.str "sums")) .nil))) (.cons (.ret (.con (.bool true))) .nil) .nil) (.cons (.ret (.and (.prim .eq (.cons (.prim (.bi "len") (.cons (.prim .idx (.cons (.var 1) (.cons (.con (.int 0)) .nil))) .nil)) (.cons (.con (.int 2)) .nil))) (.or (.prim .eq (.cons (.prim .idx (.cons (.var 1) (.cons (.con (.int 1)) .nil))) (.cons (.con (.int 0)) .nil))) (.prim .isin (.cons (.var 0) (.cons (.tup (.cons (.con (.str "unlike")) (.cons (.con (.str "pairs")) .nil))) .nil)))))) .nil))⟩
def N_plain_masks : List PySem.Str := ["kind", "places", "rows", "found", "clause", "equation", "code", "row"]
def p_plain_masks : List PySem.Str := ["kind", "places"]
def D_plain_masks : Df := ⟨2, 8, (.cons (.par 2 3 (.call "all_rows" (.val (.var 1) .nil)) (.lst .nil)) (.cons (.for (.nm 4) (.seq (.call "all_clauses" (.val (.var 1) .nil))) (.cons (.ifs (.call "lets_clause" (.val (.var 0) (.val (.var 4) .nil))) (.cons (.app 3 (.gen .sum [6, 7] (.tp [6, 7]) (.enum (.var 2)) (.cons (.call "holds_to" (.val (.var 7) (.val (.var 4) .nil))) .nil) (.prim .shl (.cons (.con (.int 1)) (.cons (.var 6) .nil))))) .nil) .nil) .nil)) (.cons (.for (.nm 5) (.seq (.call "all_equations" (.val (.var 1) .nil))) (.cons (.ifs (.call "lets_equation" (.val (.var 0) (.val (.var 5) .nil))) (.cons (.app 3 (.gen .sum [6, 7] (.tp [6, 7]) (.enum (.var 2)) (.cons (.call "fits_equation" (.val (.var 7) (.val (.var 5) .nil))) .nil) (.prim .shl (.cons (.con (.int 1)) (.cons (.var 6) .nil))))) .nil) .nil) .nil)) (.cons (.ret (.var 3)) .nil))))⟩
def N_least_mask : List PySem.Str := ["plains", "places", "mask", "found", "plain"]
def p_least_mask : List PySem.Str := ["plains", "places", "mask"]
def D_least_mask : Df := ⟨3, 5, (.cons (.asg (.nm 3) (.call "full_mask" (.val (.var 1) .nil))) (.cons (.for (.nm 4) (.seq (.var 0)) (.cons (.ifs (.prim .eq (.cons (.prim .band (.cons (.var 2) (.cons (.prim .inv (.cons (.var 4) .nil)) .nil))) (.cons (.con (.int 0)) .nil))) (.cons (.aug 3 .band (.var 4)) .nil) .nil) .nil)) (.cons (.ret (.var 3)) .nil)))⟩
def N_least_of : List PySem.Str := ["kind", "relation", "places"]
def p_least_of : List PySem.Str := ["kind", "relation"]
def D_least_of : Df := ⟨2, 3, (.cons (.asg (.nm 2) (.prim .idx (.cons (.var 1) (.cons (.con (.int 0)) .nil)))) (.cons (.ret (.call "relation_of" (.val (.var 2) (.val (.call "least_mask" (.val (.call "plain_masks" (.val (.var 0) (.val (.var 2) .nil))) (.val (.var 2) (.val (.call "mask_of" (.val (.var 1) .nil)) .nil)))) .nil)))) .nil))⟩
def N_lies_at : List PySem.Str := ["kind", "relation"]
def p_lies_at : List PySem.Str := ["kind", "relation"]
def D_lies_at : Df := ⟨2, 2, (.cons (.ret (.prim .eq (.cons (.call "least_of" (.val (.var 0) (.val (.var 1) .nil))) (.cons (.var 1) .nil)))) .nil)⟩
def N_is_in : List PySem.Str := ["kind", "relation"]
def p_is_in : List PySem.Str := ["kind", "relation"]
def D_is_in : Df := ⟨2, 2, (.cons (.exp (.call "need_kind" (.val (.var 0) .nil))) (.cons (.exp (.call "need_relation" (.val (.var 1) .nil))) (.cons (.ret (.call "lies_at" (.val (.var 0) (.val (.var 1) .nil)))) .nil)))⟩
def N_least_in : List PySem.Str := ["kind", "relation"]
def p_least_in : List PySem.Str := ["kind", "relation"]
def D_least_in : Df := ⟨2, 2, (.cons (.exp (.call "need_kind" (.val (.var 0) .nil))) (.cons (.exp (.call "need_relation" (.val (.var 1) .nil))) (.cons (.ret (.call "least_of" (.val (.var 0) (.val (.var 1) .nil)))) .nil)))⟩
def N_masks_in : List PySem.Str := ["kind", "places", "plains", "mask"]
def p_masks_in : List PySem.Str := ["kind", "places"]
def D_masks_in : Df := ⟨2, 4, (.cons (.asg (.nm 2) (.call "plain_masks" (.val (.var 0) (.val (.var 1) .nil)))) (.cons (.ret (.comp [3] (.nm 3) (.rng1 (.prim .add (.cons (.call "full_mask" (.val (.var 1) .nil)) (.cons (.con (.int 1)) .nil)))) (.cons (.prim .eq (.cons (.call "least_mask" (.val (.var 2) (.val (.var 1) (.val (.var 3) .nil)))) (.cons (.var 3) .nil))) .nil) (.var 3))) .nil))⟩
def N_kind_sizes : List PySem.Str := ["places", "kind"]
def p_kind_sizes : List PySem.Str := ["places"]
def D_kind_sizes : Df := ⟨1, 2, (.cons (.exp (.call "need_number" (.val (.var 0) (.val (.con (.int 0)) (.val (.glb "MOST_COUNTED" w_MOST_COUNTED) .nil))))) (.cons (.ret (.prim (.bi "tuple") (.cons (.prim (.bi "sorted") (.cons (.comp [1] (.nm 1) (.seq (.glb "KINDS" w_KINDS)) .nil (.tup (.cons (.var 1) (.cons (.prim (.bi "len") (.cons (.call "masks_in" (.val (.var 1) (.val (.var 0) .nil))) .nil)) .nil)))) .nil)) .nil))) .nil))⟩
def N_all_in : List PySem.Str := ["kind", "places", "mask"]
def p_all_in : List PySem.Str := ["kind", "places"]
def D_all_in : Df := ⟨2, 3, (.cons (.exp (.call "need_kind" (.val (.var 0) .nil))) (.cons (.exp (.call "need_number" (.val (.var 1) (.val (.con (.int 0)) (.val (.glb "MOST_LISTED" w_MOST_LISTED) .nil))))) (.cons (.ret (.prim (.bi "tuple") (.cons (.prim (.bi "sorted") (.cons (.comp [2] (.nm 2) (.seq (.call "masks_in" (.val (.var 0) (.val (.var 1) .nil)))) .nil (.call "relation_of" (.val (.var 1) (.val (.var 2) .nil)))) .nil)) .nil))) .nil)))⟩
def N_need_rows : List PySem.Str := ["thing", "places", "row"]
def p_need_rows : List PySem.Str := ["thing", "places"]
def D_need_rows : Df := ⟨2, 3, (.cons (.ifs (.or (.not (.isi (.var 0) "tuple")) (.or (.not (.gen .all [2] (.nm 2) (.seq (.var 0)) .nil (.call "is_row" (.val (.var 2) (.val (.var 1) .nil))))) (.not (.call "is_rising" (.val (.var 0) .nil))))) (.cons .rais .nil) .nil) .nil)⟩
def N_mask_of_rows : List PySem.Str := ["rows", "row"]
def p_mask_of_rows : List PySem.Str := ["rows"]
def D_mask_of_rows : Df := ⟨1, 2, (.cons (.ret (.gen .sum [1] (.nm 1) (.seq (.var 0)) .nil (.prim .shl (.cons (.con (.int 1)) (.cons (.call "code_of" (.val (.var 1) .nil)) .nil))))) .nil)⟩
def N_least_for : List PySem.Str := ["kind", "places", "ins"]
def p_least_for : List PySem.Str := ["kind", "places", "ins"]
def D_least_for : Df := ⟨3, 3, (.cons (.ret (.call "least_mask" (.val (.call "plain_masks" (.val (.var 0) (.val (.var 1) .nil))) (.val (.var 1) (.val (.call "mask_of_rows" (.val (.var 2) .nil)) .nil))))) .nil)⟩
def N_fitted : List PySem.Str := ["kind", "places", "ins", "outs", "mask", "wrong", "row"]
def p_fitted : List PySem.Str := ["kind", "places", "ins", "outs"]
def D_fitted : Df := ⟨4, 7, (.cons (.exp (.call "need_kind" (.val (.var 0) .nil))) (.cons (.exp (.call "need_number" (.val (.var 1) (.val (.con (.int 0)) (.val (.glb "MOST_PLACES" w_MOST_PLACES) .nil))))) (.cons (.exp (.call "need_rows" (.val (.var 2) (.val (.var 1) .nil)))) (.cons (.exp (.call "need_rows" (.val (.var 3) (.val (.var 1) .nil)))) (.cons (.asg (.nm 4) (.call "least_for" (.val (.var 0) (.val (.var 1) (.val (.var 2) .nil))))) (.cons (.asg (.nm 5) (.comp [6] (.nm 6) (.seq (.var 3)) (.cons (.prim .eq (.cons (.prim .band (.cons (.prim .shr (.cons (.var 4) (.cons (.call "code_of" (.val (.var 6) .nil)) .nil))) (.cons (.con (.int 1)) .nil))) (.cons (.con (.int 1)) .nil))) .nil) (.call "code_of" (.val (.var 6) .nil)))) (.cons (.ret (.ife (.prim .eq (.cons (.var 5) (.cons (.lst .nil) .nil))) (.tup (.cons (.con (.str "relation")) (.cons (.call "relation_of" (.val (.var 1) (.val (.var 4) .nil))) .nil))) (.tup (.cons (.con (.str "row")) (.cons (.call "row_of" (.val (.prim .idx (.cons (.var 5) (.cons (.con (.int 0)) .nil))) (.val (.var 1) .nil))) .nil))))) .nil)))))))⟩
def N__law_pot : List PySem.Str := ["script", "k", "cell"]
def p__law_pot : List PySem.Str := ["script", "k"]
def D__law_pot : Df := ⟨2, 3, (.cons (.asg (.nm 2) (.ife (.prim .lt (.cons (.var 1) (.cons (.prim (.bi "len") (.cons (.var 0) .nil)) .nil))) (.prim .idx (.cons (.var 0) (.cons (.var 1) .nil))) (.prim .add (.cons (.prim .mul (.cons (.con (.int 43)) (.cons (.prim (.bi "sum") (.cons (.prim (.sl false true) (.cons (.var 0) (.cons (.con (.int 3)) .nil))) .nil)) .nil))) (.cons (.prim .mul (.cons (.con (.int 971)) (.cons (.prim .add (.cons (.var 1) (.cons (.con (.int 1)) .nil))) .nil))) .nil))))) (.cons (.ifs (.prim .ge (.cons (.var 2) (.cons (.prim .pow (.cons (.con (.int 10)) (.cons (.con (.int 18)) .nil))) .nil))) (.cons (.ret (.lst (.cons (.prim .sub (.cons (.var 2) (.cons (.prim .pow (.cons (.con (.int 10)) (.cons (.con (.int 18)) .nil))) .nil))) (.cons (.con (.int 7)) (.cons (.con (.int 0)) .nil))))) .nil) .nil) (.cons (.ret (.lst (.cons (.con (.int 0)) (.cons (.prim .mod (.cons (.prim (.bi "int") (.cons (.prim .add (.cons (.prim .mul (.cons (.var 2) (.cons (.con (.int 1109)) .nil))) (.cons (.prim .mul (.cons (.con (.int 61)) (.cons (.var 1) .nil))) .nil))) .nil)) (.cons (.prim .add (.cons (.prim .pow (.cons (.con (.int 10)) (.cons (.con (.int 37)) .nil))) (.cons (.con (.int 43)) .nil))) .nil))) (.cons (.con (.int 0)) .nil))))) .nil)))⟩
def N__law_draw : List PySem.Str := ["pot", "many", "got", "stir"]
def p__law_draw : List PySem.Str := ["pot", "many"]
def D__law_draw : Df := ⟨2, 4, (.cons (.ifs (.prim .gt (.cons (.prim .idx (.cons (.var 0) (.cons (.con (.int 0)) .nil))) (.cons (.con (.int 0)) .nil))) (.cons (.asg (.nm 2) (.prim .mod (.cons (.prim (.bi "int") (.cons (.prim .idx (.cons (.var 0) (.cons (.con (.int 0)) .nil))) .nil)) (.cons (.var 1) .nil)))) (.cons (.put 0 (.con (.int 0)) (.prim .fdiv (.cons (.prim .idx (.cons (.var 0) (.cons (.con (.int 0)) .nil))) (.cons (.var 1) .nil)))) (.cons (.ret (.var 2)) .nil))) .nil) (.cons (.put 0 (.con (.int 2)) (.prim .add (.cons (.prim .idx (.cons (.var 0) (.cons (.con (.int 2)) .nil))) (.cons (.con (.int 1)) .nil)))) (.cons (.asg (.nm 3) (.prim .add (.cons (.prim .mul (.cons (.con (.int 3)) (.cons (.prim .idx (.cons (.var 0) (.cons (.con (.int 1)) .nil))) .nil))) (.cons (.prim .mul (.cons (.con (.int 9576890767)) (.cons (.prim .idx (.cons (.var 0) (.cons (.con (.int 2)) .nil))) .nil))) .nil)))) (.cons (.asg (.nm 3) (.prim .mod (.cons (.prim (.bi "int") (.cons (.prim .add (.cons (.prim .mul (.cons (.prim .mul (.cons (.var 3) (.cons (.var 3) .nil))) (.cons (.var 3) .nil))) (.cons (.prim .mul (.cons (.con (.int 86028121)) (.cons (.prim .idx (.cons (.var 0) (.cons (.con (.int 2)) .nil))) .nil))) .nil))) .nil)) (.cons (.prim .add (.cons (.prim .pow (.cons (.con (.int 10)) (.cons (.con (.int 41)) .nil))) (.cons (.con (.int 37)) .nil))) .nil)))) (.cons (.asg (.nm 3) (.prim .mod (.cons (.prim (.bi "int") (.cons (.prim .add (.cons (.prim .mul (.cons (.var 3) (.cons (.var 3) .nil))) (.cons (.con (.int 49979687)) .nil))) .nil)) (.cons (.prim .add (.cons (.prim .pow (.cons (.con (.int 10)) (.cons (.con (.int 38)) .nil))) (.cons (.con (.int 133)) .nil))) .nil)))) (.cons (.ret (.prim .mod (.cons (.prim (.bi "int") (.cons (.prim .fdiv (.cons (.var 3) (.cons (.prim .pow (.cons (.con (.int 10)) (.cons (.con (.int 7)) .nil))) .nil))) .nil)) (.cons (.var 1) .nil)))) .nil))))))⟩
def N__law_rows : List PySem.Str := ["places", "rows", "place", "row"]
def p__law_rows : List PySem.Str := ["places"]
def D__law_rows : Df := ⟨1, 4, (.cons (.asg (.nm 1) (.lst (.cons (.tup .nil) .nil))) (.cons (.for (.nm 2) (.rng1 (.var 0)) (.cons (.asg (.nm 1) (.prim .add (.cons (.comp [3] (.nm 3) (.seq (.var 1)) .nil (.prim .add (.cons (.var 3) (.cons (.tup (.cons (.con (.int 0)) .nil)) .nil)))) (.cons (.comp [3] (.nm 3) (.seq (.var 1)) .nil (.prim .add (.cons (.var 3) (.cons (.tup (.cons (.con (.int 1)) .nil)) .nil)))) .nil)))) .nil)) (.cons (.ret (.prim (.bi "sorted") (.cons (.var 1) .nil))) .nil)))⟩
def N__law_kinds : List PySem.Str := ["few", "many"]
def p__law_kinds : List PySem.Str := []
def D__law_kinds : Df := ⟨0, 2, (.cons (.asg (.nm 0) (.lst (.cons (.con (.str "values")) (.cons (.con (.str "order")) (.cons (.con (.str "unlike")) (.cons (.con (.str "pairs")) (.cons (.con (.str "sums")) (.cons (.con (.str "joins")) (.cons (.con (.str "meets")) (.cons (.con (.str "all")) .nil)))))))))) (.cons (.for (.nm 1) (.seq (.tup (.cons (.con (.str "2")) (.cons (.con (.str "3")) (.cons (.con (.str "4")) .nil))))) (.cons (.asg (.nm 0) (.prim .add (.cons (.var 0) (.cons (.lst (.cons (.prim .add (.cons (.con (.str "or")) (.cons (.var 1) .nil))) (.cons (.prim .add (.cons (.prim .add (.cons (.con (.str "or")) (.cons (.var 1) .nil))) (.cons (.con (.str "order")) .nil))) (.cons (.prim .add (.cons (.con (.str "and")) (.cons (.var 1) .nil))) (.cons (.prim .add (.cons (.prim .add (.cons (.con (.str "and")) (.cons (.var 1) .nil))) (.cons (.con (.str "order")) .nil))) .nil))))) .nil)))) .nil)) (.cons (.ret (.prim (.bi "sorted") (.cons (.var 0) .nil))) .nil)))⟩
def N__law_clause_masks : List PySem.Str := ["places", "rows", "found", "place", "ones", "noughts", "with_one", "many", "few", "mask", "at", "row"]
def p__law_clause_masks : List PySem.Str := ["places"]
def D__law_clause_masks : Df := ⟨1, 12, (.cons (.par 1 2 (.call "_law_rows" (.val (.var 0) .nil)) (.lst (.cons (.tup (.cons (.con (.int 0)) (.cons (.con (.int 0)) (.cons (.con (.int 0)) .nil)))) .nil))) (.cons (.for (.nm 3) (.rng1 (.var 0)) (.cons (.asg (.nm 4) (.prim (.bi "sum") (.cons (.comp [10, 11] (.tp [10, 11]) (.enum (.var 1)) (.cons (.prim .eq (.cons (.prim .idx (.cons (.var 11) (.cons (.var 3) .nil))) (.cons (.con (.int 1)) .nil))) .nil) (.prim .shl (.cons (.con (.int 1)) (.cons (.var 10) .nil)))) .nil))) (.cons (.asg (.nm 5) (.prim (.bi "sum") (.cons (.comp [10, 11] (.tp [10, 11]) (.enum (.var 1)) (.cons (.prim .eq (.cons (.prim .idx (.cons (.var 11) (.cons (.var 3) .nil))) (.cons (.con (.int 0)) .nil))) .nil) (.prim .shl (.cons (.con (.int 1)) (.cons (.var 10) .nil)))) .nil))) (.cons (.asg (.nm 6) (.comp [7, 8, 9] (.tp [7, 8, 9]) (.seq (.var 2)) .nil (.tup (.cons (.prim .add (.cons (.var 7) (.cons (.con (.int 1)) .nil))) (.cons (.var 8) (.cons (.prim .bor (.cons (.var 9) (.cons (.var 4) .nil))) .nil)))))) (.cons (.asg (.nm 2) (.prim .add (.cons (.prim .add (.cons (.var 2) (.cons (.var 6) .nil))) (.cons (.comp [7, 8, 9] (.tp [7, 8, 9]) (.seq (.var 2)) .nil (.tup (.cons (.prim .add (.cons (.var 7) (.cons (.con (.int 1)) .nil))) (.cons (.prim .add (.cons (.var 8) (.cons (.con (.int 1)) .nil))) (.cons (.prim .bor (.cons (.var 9) (.cons (.var 5) .nil))) .nil))))) .nil)))) .nil))))) (.cons (.ret (.var 2)) .nil)))⟩
def N__law_sum_masks : List PySem.Str := ["places", "rows", "found", "place", "ones", "at", "row", "many", "odd"]
def p__law_sum_masks : List PySem.Str := ["places"]
def D__law_sum_masks : Df := ⟨1, 9, (.cons (.par 1 2 (.call "_law_rows" (.val (.var 0) .nil)) (.lst (.cons (.tup (.cons (.con (.int 0)) (.cons (.con (.int 0)) .nil))) .nil))) (.cons (.for (.nm 3) (.rng1 (.var 0)) (.cons (.asg (.nm 4) (.prim (.bi "sum") (.cons (.comp [5, 6] (.tp [5, 6]) (.enum (.var 1)) (.cons (.prim .eq (.cons (.prim .idx (.cons (.var 6) (.cons (.var 3) .nil))) (.cons (.con (.int 1)) .nil))) .nil) (.prim .shl (.cons (.con (.int 1)) (.cons (.var 5) .nil)))) .nil))) (.cons (.asg (.nm 2) (.prim .add (.cons (.var 2) (.cons (.comp [7, 8] (.tp [7, 8]) (.seq (.var 2)) .nil (.tup (.cons (.prim .add (.cons (.var 7) (.cons (.con (.int 1)) .nil))) (.cons (.prim .bxor (.cons (.var 8) (.cons (.var 4) .nil))) .nil)))) .nil)))) .nil))) (.cons (.ret (.var 2)) .nil)))⟩
def N__law_has_clause : List PySem.Str := ["kind", "many", "noughts"]
def p__law_has_clause : List PySem.Str := ["kind", "many", "noughts"]
def D__law_has_clause : Df := ⟨3, 3, (.cons (.ifs (.or (.prim .lt (.cons (.var 1) (.cons (.con (.int 2)) .nil))) (.prim .eq (.cons (.var 0) (.cons (.con (.str "all")) .nil)))) (.cons (.ret (.con (.bool true))) .nil) .nil) (.cons (.ifs (.prim .eq (.cons (.var 0) (.cons (.con (.str "pairs")) .nil))) (.cons (.ret (.prim .eq (.cons (.var 1) (.cons (.con (.int 2)) .nil)))) .nil) .nil) (.cons (.ifs (.prim .eq (.cons (.var 0) (.cons (.con (.str "joins")) .nil))) (.cons (.ret (.prim .lt (.cons (.var 2) (.cons (.con (.int 2)) .nil)))) .nil) .nil) (.cons (.ifs (.prim .eq (.cons (.var 0) (.cons (.con (.str "meets")) .nil))) (.cons (.ret (.prim .lt (.cons (.prim .sub (.cons (.var 1) (.cons (.var 2) .nil))) (.cons (.con (.int 2)) .nil)))) .nil) .nil) (.cons (.ifs (.chain .lt .lt (.con (.int 0)) (.var 2) (.var 1)) (.cons (.ret (.and (.prim .eq (.cons (.var 1) (.cons (.con (.int 2)) .nil))) (.prim .eq (.cons (.prim (.sl true false) (.cons (.var 0) (.cons (.prim .neg (.cons (.con (.int 5)) .nil)) .nil))) (.cons (.con (.str "order")) .nil))))) .nil) .nil) (.cons (.ifs (.prim .eq (.cons (.var 2) (.cons (.con (.int 0)) .nil))) (.cons (.ret (.and (.prim .eq (.cons (.prim (.sl false true) (.cons (.var 0) (.cons (.con (.int 2)) .nil))) (.cons (.con (.str "or")) .nil))) (.and (.prim .ne (.cons (.var 0) (.cons (.con (.str "order")) .nil))) (.prim .le (.cons (.var 1) (.cons (.prim (.bi "int") (.cons (.prim .idx (.cons (.var 0) (.cons (.con (.int 2)) .nil))) .nil)) .nil)))))) .nil) .nil) (.cons (.ret (.and (.prim .eq (.cons (.prim (.sl false true) (.cons (.var 0) (.cons (.con (.int 3)) .nil))) (.cons (.con (.str "and")) .nil))) (.prim .le (.cons (.var 1) (.cons (.prim (.bi "int") (.cons (.prim .idx (.cons (.var 0) (.cons (.con (.int 3)) .nil))) .nil)) .nil))))) .nil)))))))⟩
def N__law_kind_masks : List PySem.Str := ["kind", "places", "full", "found", "many", "noughts", "mask", "odd"]
def p__law_kind_masks : List PySem.Str := ["kind", "places"]
def D__law_kind_masks : Df := ⟨2, 8, (.cons (.par 2 3 (.prim .sub (.cons (.prim .shl (.cons (.con (.int 1)) (.cons (.prim .shl (.cons (.con (.int 1)) (.cons (.var 1) .nil))) .nil))) (.cons (.con (.int 1)) .nil))) (.lst .nil)) (.cons (.for (.tp [4, 5, 6]) (.seq (.call "_law_clause_masks" (.val (.var 1) .nil))) (.cons (.ifs (.call "_law_has_clause" (.val (.var 0) (.val (.var 4) (.val (.var 5) .nil)))) (.cons (.app 3 (.var 6)) .nil) .nil) .nil)) (.cons (.for (.tp [4, 7]) (.seq (.call "_law_sum_masks" (.val (.var 1) .nil))) (.cons (.ifs (.or (.prim .eq (.cons (.var 0) (.cons (.con (.str "sums")) .nil))) (.prim .eq (.cons (.var 4) (.cons (.con (.int 2)) .nil)))) (.cons (.app 3 (.prim .bxor (.cons (.var 2) (.cons (.var 7) .nil)))) .nil) .nil) (.cons (.ifs (.or (.prim .eq (.cons (.var 0) (.cons (.con (.str "sums")) .nil))) (.and (.prim .eq (.cons (.var 4) (.cons (.con (.int 2)) .nil))) (.prim .isin (.cons (.var 0) (.cons (.tup (.cons (.con (.str "unlike")) (.cons (.con (.str "pairs")) .nil))) .nil))))) (.cons (.app 3 (.var 7)) .nil) .nil) .nil))) (.cons (.ret (.var 3)) .nil))))⟩
def N__law_unbits : List PySem.Str := ["places", "bits", "at", "row"]
def p__law_unbits : List PySem.Str := ["places", "bits"]
def D__law_unbits : Df := ⟨2, 4, (.cons (.ret (.tup (.cons (.var 0) (.cons (.prim (.bi "tuple") (.cons (.comp [2, 3] (.tp [2, 3]) (.enum (.call "_law_rows" (.val (.var 0) .nil))) (.cons (.prim .eq (.cons (.prim .band (.cons (.prim .shr (.cons (.var 1) (.cons (.var 2) .nil))) (.cons (.con (.int 1)) .nil))) (.cons (.con (.int 1)) .nil))) .nil) (.var 3)) .nil)) .nil)))) .nil)⟩
def N__law_features : List PySem.Str := ["kind", "ones", "noughts", "order", "unlike", "word"]
def p__law_features : List PySem.Str := ["kind"]
def D__law_features : Df := ⟨1, 6, (.cons (.asg (.tp [1, 2]) (.tup (.cons (.con (.int 1)) (.cons (.con (.int 1)) .nil)))) (.cons (.ifs (.prim .isin (.cons (.var 0) (.cons (.tup (.cons (.con (.str "pairs")) (.cons (.con (.str "joins")) (.cons (.con (.str "all")) .nil)))) .nil))) (.cons (.asg (.nm 1) (.ife (.prim .eq (.cons (.var 0) (.cons (.con (.str "pairs")) .nil))) (.con (.int 2)) (.con (.int 4)))) .nil) (.cons (.ifs (.and (.prim .eq (.cons (.prim (.sl false true) (.cons (.var 0) (.cons (.con (.int 2)) .nil))) (.cons (.con (.str "or")) .nil))) (.prim .ne (.cons (.var 0) (.cons (.con (.str "order")) .nil)))) (.cons (.asg (.nm 1) (.prim (.bi "int") (.cons (.prim .idx (.cons (.var 0) (.cons (.con (.int 2)) .nil))) .nil))) .nil) .nil) .nil)) (.cons (.ifs (.prim .isin (.cons (.var 0) (.cons (.tup (.cons (.con (.str "pairs")) (.cons (.con (.str "meets")) (.cons (.con (.str "all")) .nil)))) .nil))) (.cons (.asg (.nm 2) (.ife (.prim .eq (.cons (.var 0) (.cons (.con (.str "pairs")) .nil))) (.con (.int 2)) (.con (.int 4)))) .nil) (.cons (.ifs (.prim .eq (.cons (.prim (.sl false true) (.cons (.var 0) (.cons (.con (.int 3)) .nil))) (.cons (.con (.str "and")) .nil))) (.cons (.asg (.nm 2) (.prim (.bi "int") (.cons (.prim .idx (.cons (.var 0) (.cons (.con (.int 3)) .nil))) .nil))) .nil) .nil) .nil)) (.cons (.asg (.nm 3) (.ife (.or (.prim .eq (.cons (.prim (.sl true false) (.cons (.var 0) (.cons (.prim .neg (.cons (.con (.int 5)) .nil)) .nil))) (.cons (.con (.str "order")) .nil))) (.prim .isin (.cons (.var 0) (.cons (.tup (.cons (.con (.str "pairs")) (.cons (.con (.str "joins")) (.cons (.con (.str "meets")) (.cons (.con (.str "all")) .nil))))) .nil)))) (.con (.int 1)) (.con (.int 0)))) (.cons (.asg (.nm 4) (.ife (.prim .isin (.cons (.var 0) (.cons (.tup (.cons (.con (.str "unlike")) (.cons (.con (.str "pairs")) (.cons (.con (.str "sums")) (.cons (.con (.str "all")) .nil))))) .nil))) (.con (.int 1)) (.con (.int 0)))) (.cons (.ret (.prim .add (.cons (.lst (.cons (.var 1) (.cons (.var 2) (.cons (.var 3) (.cons (.var 4) .nil))))) (.cons (.comp [5] (.nm 5) (.seq (.tup (.cons (.con (.str "sums")) (.cons (.con (.str "joins")) (.cons (.con (.str "meets")) .nil))))) .nil (.ife (.prim .isin (.cons (.var 0) (.cons (.tup (.cons (.var 5) (.cons (.con (.str "all")) .nil))) .nil))) (.con (.int 1)) (.con (.int 0)))) .nil)))) .nil))))))⟩
def N__law_lies : List PySem.Str := ["kind", "other", "one", "two"]
def p__law_lies : List PySem.Str := ["kind", "other"]
def D__law_lies : Df := ⟨2, 4, (.cons (.ret (.prim .eq (.cons (.comp [2, 3] (.tp [2, 3]) (.zip (.call "_law_features" (.val (.var 0) .nil)) (.call "_law_features" (.val (.var 1) .nil))) (.cons (.prim .gt (.cons (.var 2) (.cons (.var 3) .nil))) .nil) (.con (.int 1))) (.cons (.lst .nil) .nil)))) .nil)⟩
def N__law_all_bits : List PySem.Str := ["kind", "places", "found", "mask", "bits"]
def p__law_all_bits : List PySem.Str := ["kind", "places"]
def D__law_all_bits : Df := ⟨2, 5, (.cons (.asg (.nm 2) (.lst (.cons (.prim .sub (.cons (.prim .shl (.cons (.con (.int 1)) (.cons (.prim .shl (.cons (.con (.int 1)) (.cons (.var 1) .nil))) .nil))) (.cons (.con (.int 1)) .nil))) .nil))) (.cons (.for (.nm 3) (.seq (.call "_law_kind_masks" (.val (.var 0) (.val (.var 1) .nil)))) (.cons (.asg (.nm 2) (.sset (.prim .add (.cons (.var 2) (.cons (.comp [4] (.nm 4) (.seq (.var 2)) .nil (.prim .band (.cons (.var 4) (.cons (.var 3) .nil)))) .nil))))) .nil)) (.cons (.ret (.var 2)) .nil)))⟩
def N__law_relations : List PySem.Str := ["kind", "places", "bits"]
def p__law_relations : List PySem.Str := ["kind", "places"]
def D__law_relations : Df := ⟨2, 3, (.cons (.ret (.prim (.bi "tuple") (.cons (.prim (.bi "sorted") (.cons (.comp [2] (.nm 2) (.seq (.call "_law_all_bits" (.val (.var 0) (.val (.var 1) .nil)))) .nil (.call "_law_unbits" (.val (.var 1) (.val (.var 2) .nil)))) .nil)) .nil))) .nil)⟩
def N__law_list_right : List PySem.Str := ["kind", "places", "size", "due", "bits", "relation", "others", "row"]
def p__law_list_right : List PySem.Str := ["kind", "places", "size"]
def D__law_list_right : Df := ⟨3, 8, (.cons (.asg (.nm 3) (.call "_law_relations" (.val (.var 0) (.val (.var 1) .nil)))) (.cons (.ifs (.or (.prim .ne (.cons (.prim (.bi "repr") (.cons (.lst (.cons (.call "all_in" (.val (.var 0) (.val (.var 1) .nil))) (.cons (.callK "all_in" .nil (.val (.var 1) (.val (.var 0) .nil)) [1, 0]) .nil))) .nil)) (.cons (.prim (.bi "repr") (.cons (.lst (.cons (.var 3) (.cons (.var 3) .nil))) .nil)) .nil))) (.prim .ne (.cons (.prim (.bi "len") (.cons (.var 3) .nil)) (.cons (.var 2) .nil)))) (.cons (.ret (.con (.bool false))) .nil) .nil) (.cons (.for (.nm 4) (.rng1 (.prim .shl (.cons (.con (.int 1)) (.cons (.prim .shl (.cons (.con (.int 1)) (.cons (.var 1) .nil))) .nil)))) (.cons (.asg (.nm 5) (.call "_law_unbits" (.val (.var 1) (.val (.var 4) .nil)))) (.cons (.ifs (.prim .ne (.cons (.prim (.bi "repr") (.cons (.call "is_in" (.val (.var 0) (.val (.var 5) .nil))) .nil)) (.cons (.prim (.bi "repr") (.cons (.prim .isin (.cons (.var 5) (.cons (.var 3) .nil))) .nil)) .nil))) (.cons (.ret (.con (.bool false))) .nil) .nil) (.cons (.ifs (.prim .ne (.cons (.prim .eq (.cons (.prim (.bi "repr") (.cons (.call "least_in" (.val (.var 0) (.val (.var 5) .nil))) .nil)) (.cons (.prim (.bi "repr") (.cons (.var 5) .nil)) .nil))) (.cons (.prim .isin (.cons (.var 5) (.cons (.var 3) .nil))) .nil))) (.cons (.ret (.con (.bool false))) .nil) .nil) (.cons (.asg (.nm 6) (.prim (.bi "tuple") (.cons (.comp [7] (.nm 7) (.seq (.call "_law_rows" (.val (.var 1) .nil))) (.cons (.prim .notin (.cons (.var 7) (.cons (.prim .idx (.cons (.var 5) (.cons (.con (.int 1)) .nil))) .nil))) .nil) (.var 7)) .nil))) (.cons (.ifs (.prim .ne (.cons (.prim .eq (.cons (.prim .idx (.cons (.call "fitted" (.val (.var 0) (.val (.var 1) (.val (.prim .idx (.cons (.var 5) (.cons (.con (.int 1)) .nil))) (.val (.var 6) .nil))))) (.cons (.con (.int 0)) .nil))) (.cons (.con (.str "relation")) .nil))) (.cons (.prim .isin (.cons (.var 5) (.cons (.var 3) .nil))) .nil))) (.cons (.ret (.con (.bool false))) .nil) .nil) .nil)))))) (.cons (.ret (.con (.bool true))) .nil))))⟩
def N__law_right : List PySem.Str := ["pot", "places", "kinds", "due", "told", "kind", "size", "turn", "at", "other", "greater"]
def p__law_right : List PySem.Str := ["pot", "places"]
def D__law_right : Df := ⟨2, 11, (.cons (.asg (.nm 2) (.call "_law_kinds" .nil)) (.cons (.asg (.nm 3) (.prim (.bi "tuple") (.cons (.comp [5] (.nm 5) (.seq (.var 2)) .nil (.tup (.cons (.var 5) (.cons (.prim (.bi "len") (.cons (.call "_law_all_bits" (.val (.var 5) (.val (.var 1) .nil))) .nil)) .nil)))) .nil))) (.cons (.asg (.nm 4) (.call "kind_sizes" (.val (.var 1) .nil))) (.cons (.ifs (.prim .ne (.cons (.prim (.bi "repr") (.cons (.lst (.cons (.var 4) (.cons (.callK "kind_sizes" .nil (.val (.var 1) .nil) [0]) .nil))) .nil)) (.cons (.prim (.bi "repr") (.cons (.lst (.cons (.var 3) (.cons (.var 3) .nil))) .nil)) .nil))) (.cons (.ret (.con (.bool false))) .nil) .nil) (.cons (.for (.tp [5, 6]) (.seq (.var 4)) (.cons (.ifs (.prim .ne (.cons (.comp [9, 10] (.tp [9, 10]) (.seq (.var 4)) (.cons (.and (.call "_law_lies" (.val (.var 5) (.val (.var 9) .nil))) (.prim .gt (.cons (.var 6) (.cons (.var 10) .nil)))) .nil) (.con (.int 1))) (.cons (.lst .nil) .nil))) (.cons (.ret (.con (.bool false))) .nil) .nil) .nil)) (.cons (.ifs (.prim .gt (.cons (.var 1) (.cons (.con (.int 2)) .nil))) (.cons (.ret (.con (.bool true))) .nil) .nil) (.cons (.for (.nm 7) (.rng1 (.con (.int 4))) (.cons (.asg (.nm 8) (.call "_law_draw" (.ref 0 (.val (.prim (.bi "len") (.cons (.var 2) .nil)) .nil)))) (.cons (.ifs (.not (.call "_law_list_right" (.val (.prim .idx (.cons (.var 2) (.cons (.var 8) .nil))) (.val (.var 1) (.val (.prim .idx (.cons (.prim .idx (.cons (.var 4) (.cons (.var 8) .nil))) (.cons (.con (.int 1)) .nil))) .nil))))) (.cons (.ret (.con (.bool false))) .nil) .nil) .nil))) (.cons (.ret (.con (.bool true))) .nil))))))))⟩
def N_law : List PySem.Str := ["script", "k", "pot", "places"]
def p_law : List PySem.Str := ["script"]
def D_law : Df := ⟨1, 4, (.cons (.for (.nm 1) (.rng1 (.prim (.bi "max") (.cons (.con (.int 1)) (.cons (.prim (.bi "min") (.cons (.prim (.bi "len") (.cons (.var 0) .nil)) (.cons (.con (.int 2)) .nil))) .nil)))) (.cons (.asg (.nm 2) (.call "_law_pot" (.val (.var 0) (.val (.var 1) .nil)))) (.cons (.asg (.nm 3) (.ife (.prim .eq (.cons (.var 1) (.cons (.con (.int 0)) .nil))) (.call "_law_draw" (.ref 2 (.val (.con (.int 4)) .nil))) (.call "_law_draw" (.ref 2 (.val (.con (.int 3)) .nil))))) (.cons (.ifs (.not (.call "_law_right" (.ref 2 (.val (.var 3) .nil)))) (.cons (.ret (.con (.bool false))) .nil) .nil) .nil)))) (.cons (.ret (.con (.bool true))) .nil))⟩
def tabL : List (PySem.Str × Df) := [(("is_integer" : PySem.Str), D_is_integer), (("is_within" : PySem.Str), D_is_within), (("is_value" : PySem.Str), D_is_value), (("is_row" : PySem.Str), D_is_row), (("is_rising" : PySem.Str), D_is_rising), (("is_tuple_of" : PySem.Str), D_is_tuple_of), (("is_word" : PySem.Str), D_is_word), (("need_number" : PySem.Str), D_need_number), (("code_of" : PySem.Str), D_code_of), (("row_of" : PySem.Str), D_row_of), (("all_rows" : PySem.Str), D_all_rows), (("is_relation_form" : PySem.Str), D_is_relation_form), (("need_relation" : PySem.Str), D_need_relation), (("mask_of" : PySem.Str), D_mask_of), (("relation_of" : PySem.Str), D_relation_of), (("full_mask" : PySem.Str), D_full_mask), (("holds_to" : PySem.Str), D_holds_to), (("all_clauses" : PySem.Str), D_all_clauses), (("noughts_in" : PySem.Str), D_noughts_in), (("ones_in" : PySem.Str), D_ones_in), (("row_sum" : PySem.Str), D_row_sum), (("fits_equation" : PySem.Str), D_fits_equation), (("all_equations" : PySem.Str), D_all_equations), (("need_kind" : PySem.Str), D_need_kind), (("lets_clause" : PySem.Str), D_lets_clause), (("lets_equation" : PySem.Str), D_lets_equation), (("plain_masks" : PySem.Str), D_plain_masks), (("least_mask" : PySem.Str), D_least_mask), (("least_of" : PySem.Str), D_least_of), (("lies_at" : PySem.Str), D_lies_at), (("is_in" : PySem.Str), D_is_in), (("least_in" : PySem.Str), D_least_in), (("masks_in" : PySem.Str), D_masks_in), (("kind_sizes" : PySem.Str), D_kind_sizes), (("all_in" : PySem.Str), D_all_in), (("need_rows" : PySem.Str), D_need_rows), (("mask_of_rows" : PySem.Str), D_mask_of_rows), (("least_for" : PySem.Str), D_least_for), (("fitted" : PySem.Str), D_fitted), (("_law_pot" : PySem.Str), D__law_pot), (("_law_draw" : PySem.Str), D__law_draw), (("_law_rows" : PySem.Str), D__law_rows), (("_law_kinds" : PySem.Str), D__law_kinds), (("_law_clause_masks" : PySem.Str), D__law_clause_masks), (("_law_sum_masks" : PySem.Str), D__law_sum_masks), (("_law_has_clause" : PySem.Str), D__law_has_clause), (("_law_kind_masks" : PySem.Str), D__law_kind_masks), (("_law_unbits" : PySem.Str), D__law_unbits), (("_law_features" : PySem.Str), D__law_features), (("_law_lies" : PySem.Str), D__law_lies), (("_law_all_bits" : PySem.Str), D__law_all_bits), (("_law_relations" : PySem.Str), D__law_relations), (("_law_list_right" : PySem.Str), D__law_list_right), (("_law_right" : PySem.Str), D__law_right), (("law" : PySem.Str), D_law)]
def tab (x : PySem.Str) : Option Df := tabL.lookup x
abbrev PP : Pars := fun _ => []
structure Gf (K : PySem.W.Frag) (mg : PySem.Str → Option Value) (w : World) (base : Heap) (cs : List (Addr × Addr)) : Prop where
  f_is_integer : Cb K mg "is_integer" p_is_integer
  u_is_integer : Fun K "is_integer" "is_integer" (top 8) (He.ga K "is_integer") (fdOf K "is_integer")
  f_is_within : Cb K mg "is_within" p_is_within
  u_is_within : Fun K "is_within" "is_within" (top 9) (He.ga K "is_within") (fdOf K "is_within")
  f_is_value : Cb K mg "is_value" p_is_value
  u_is_value : Fun K "is_value" "is_value" (top 10) (He.ga K "is_value") (fdOf K "is_value")
  f_is_row : Cb K mg "is_row" p_is_row
  u_is_row : Fun K "is_row" "is_row" (top 11) (He.ga K "is_row") (fdOf K "is_row")
  f_is_rising : Cb K mg "is_rising" p_is_rising
  u_is_rising : Fun K "is_rising" "is_rising" (top 12) (He.ga K "is_rising") (fdOf K "is_rising")
  f_is_tuple_of : Cb K mg "is_tuple_of" p_is_tuple_of
  u_is_tuple_of : Fun K "is_tuple_of" "is_tuple_of" (top 13) (He.ga K "is_tuple_of") (fdOf K "is_tuple_of")
  f_is_word : Cb K mg "is_word" p_is_word
  u_is_word : Fun K "is_word" "is_word" (top 14) (He.ga K "is_word") (fdOf K "is_word")
  f_need_number : Cb K mg "need_number" p_need_number
  u_need_number : Fun K "need_number" "need_number" (top 15) (He.ga K "need_number") (fdOf K "need_number")
  f_code_of : Cb K mg "code_of" p_code_of
  u_code_of : Fun K "code_of" "code_of" (top 16) (He.ga K "code_of") (fdOf K "code_of")
  f_row_of : Cb K mg "row_of" p_row_of
  u_row_of : Fun K "row_of" "row_of" (top 17) (He.ga K "row_of") (fdOf K "row_of")
  f_all_rows : Cb K mg "all_rows" p_all_rows
  u_all_rows : Fun K "all_rows" "all_rows" (top 18) (He.ga K "all_rows") (fdOf K "all_rows")
  f_is_relation_form : Cb K mg "is_relation_form" p_is_relation_form
  u_is_relation_form : Fun K "is_relation_form" "is_relation_form" (top 21) (He.ga K "is_relation_form") (fdOf K "is_relation_form")
  f_need_relation : Cb K mg "need_relation" p_need_relation
  u_need_relation : Fun K "need_relation" "need_relation" (top 22) (He.ga K "need_relation") (fdOf K "need_relation")
  f_mask_of : Cb K mg "mask_of" p_mask_of
  u_mask_of : Fun K "mask_of" "mask_of" (top 23) (He.ga K "mask_of") (fdOf K "mask_of")
  f_relation_of : Cb K mg "relation_of" p_relation_of
  u_relation_of : Fun K "relation_of" "relation_of" (top 24) (He.ga K "relation_of") (fdOf K "relation_of")
  f_full_mask : Cb K mg "full_mask" p_full_mask
  u_full_mask : Fun K "full_mask" "full_mask" (top 25) (He.ga K "full_mask") (fdOf K "full_mask")
  f_holds_to : Cb K mg "holds_to" p_holds_to
  u_holds_to : Fun K "holds_to" "holds_to" (top 27) (He.ga K "holds_to") (fdOf K "holds_to")
  f_all_clauses : Cb K mg "all_clauses" p_all_clauses
  u_all_clauses : Fun K "all_clauses" "all_clauses" (top 28) (He.ga K "all_clauses") (fdOf K "all_clauses")
  f_noughts_in : Cb K mg "noughts_in" p_noughts_in
  u_noughts_in : Fun K "noughts_in" "noughts_in" (top 29) (He.ga K "noughts_in") (fdOf K "noughts_in")
  f_ones_in : Cb K mg "ones_in" p_ones_in
  u_ones_in : Fun K "ones_in" "ones_in" (top 30) (He.ga K "ones_in") (fdOf K "ones_in")
  f_row_sum : Cb K mg "row_sum" p_row_sum
  u_row_sum : Fun K "row_sum" "row_sum" (top 32) (He.ga K "row_sum") (fdOf K "row_sum")
  f_fits_equation : Cb K mg "fits_equation" p_fits_equation
  u_fits_equation : Fun K "fits_equation" "fits_equation" (top 33) (He.ga K "fits_equation") (fdOf K "fits_equation")
  f_all_equations : Cb K mg "all_equations" p_all_equations
  u_all_equations : Fun K "all_equations" "all_equations" (top 34) (He.ga K "all_equations") (fdOf K "all_equations")
  f_need_kind : Cb K mg "need_kind" p_need_kind
  u_need_kind : Fun K "need_kind" "need_kind" (top 40) (He.ga K "need_kind") (fdOf K "need_kind")
  f_lets_clause : Cb K mg "lets_clause" p_lets_clause
  u_lets_clause : Fun K "lets_clause" "lets_clause" (top 41) (He.ga K "lets_clause") (fdOf K "lets_clause")
  f_lets_equation : Cb K mg "lets_equation" p_lets_equation
  u_lets_equation : Fun K "lets_equation" "lets_equation" (top 42) (He.ga K "lets_equation") (fdOf K "lets_equation")
  f_plain_masks : Cb K mg "plain_masks" p_plain_masks
  u_plain_masks : Fun K "plain_masks" "plain_masks" (top 43) (He.ga K "plain_masks") (fdOf K "plain_masks")
  f_least_mask : Cb K mg "least_mask" p_least_mask
  u_least_mask : Fun K "least_mask" "least_mask" (top 44) (He.ga K "least_mask") (fdOf K "least_mask")
  f_least_of : Cb K mg "least_of" p_least_of
  u_least_of : Fun K "least_of" "least_of" (top 45) (He.ga K "least_of") (fdOf K "least_of")
  f_lies_at : Cb K mg "lies_at" p_lies_at
  u_lies_at : Fun K "lies_at" "lies_at" (top 46) (He.ga K "lies_at") (fdOf K "lies_at")
  f_is_in : Cb K mg "is_in" p_is_in
  u_is_in : Fun K "is_in" "is_in" (top 50) (He.ga K "is_in") (fdOf K "is_in")
  f_least_in : Cb K mg "least_in" p_least_in
  u_least_in : Fun K "least_in" "least_in" (top 51) (He.ga K "least_in") (fdOf K "least_in")
  f_masks_in : Cb K mg "masks_in" p_masks_in
  u_masks_in : Fun K "masks_in" "masks_in" (top 52) (He.ga K "masks_in") (fdOf K "masks_in")
  f_kind_sizes : Cb K mg "kind_sizes" p_kind_sizes
  u_kind_sizes : Fun K "kind_sizes" "kind_sizes" (top 53) (He.ga K "kind_sizes") (fdOf K "kind_sizes")
  f_all_in : Cb K mg "all_in" p_all_in
  u_all_in : Fun K "all_in" "all_in" (top 54) (He.ga K "all_in") (fdOf K "all_in")
  f_need_rows : Cb K mg "need_rows" p_need_rows
  u_need_rows : Fun K "need_rows" "need_rows" (top 56) (He.ga K "need_rows") (fdOf K "need_rows")
  f_mask_of_rows : Cb K mg "mask_of_rows" p_mask_of_rows
  u_mask_of_rows : Fun K "mask_of_rows" "mask_of_rows" (top 57) (He.ga K "mask_of_rows") (fdOf K "mask_of_rows")
  f_least_for : Cb K mg "least_for" p_least_for
  u_least_for : Fun K "least_for" "least_for" (top 58) (He.ga K "least_for") (fdOf K "least_for")
  f_fitted : Cb K mg "fitted" p_fitted
  u_fitted : Fun K "fitted" "fitted" (top 59) (He.ga K "fitted") (fdOf K "fitted")
  f__law_pot : Cb K mg "_law_pot" p__law_pot
  u__law_pot : Fun K "_law_pot" "_law_pot" (top 61) (He.ga K "_law_pot") (fdOf K "_law_pot")
  f__law_draw : Cb K mg "_law_draw" p__law_draw
  u__law_draw : Fun K "_law_draw" "_law_draw" (top 62) (He.ga K "_law_draw") (fdOf K "_law_draw")
  f__law_rows : Cb K mg "_law_rows" p__law_rows
  u__law_rows : Fun K "_law_rows" "_law_rows" (top 63) (He.ga K "_law_rows") (fdOf K "_law_rows")
  f__law_kinds : Cb K mg "_law_kinds" p__law_kinds
  u__law_kinds : Fun K "_law_kinds" "_law_kinds" (top 64) (He.ga K "_law_kinds") (fdOf K "_law_kinds")
  f__law_clause_masks : Cb K mg "_law_clause_masks" p__law_clause_masks
  u__law_clause_masks : Fun K "_law_clause_masks" "_law_clause_masks" (top 65) (He.ga K "_law_clause_masks") (fdOf K "_law_clause_masks")
  f__law_sum_masks : Cb K mg "_law_sum_masks" p__law_sum_masks
  u__law_sum_masks : Fun K "_law_sum_masks" "_law_sum_masks" (top 66) (He.ga K "_law_sum_masks") (fdOf K "_law_sum_masks")
  f__law_has_clause : Cb K mg "_law_has_clause" p__law_has_clause
  u__law_has_clause : Fun K "_law_has_clause" "_law_has_clause" (top 67) (He.ga K "_law_has_clause") (fdOf K "_law_has_clause")
  f__law_kind_masks : Cb K mg "_law_kind_masks" p__law_kind_masks
  u__law_kind_masks : Fun K "_law_kind_masks" "_law_kind_masks" (top 68) (He.ga K "_law_kind_masks") (fdOf K "_law_kind_masks")
  f__law_unbits : Cb K mg "_law_unbits" p__law_unbits
  u__law_unbits : Fun K "_law_unbits" "_law_unbits" (top 69) (He.ga K "_law_unbits") (fdOf K "_law_unbits")
  f__law_features : Cb K mg "_law_features" p__law_features
  u__law_features : Fun K "_law_features" "_law_features" (top 70) (He.ga K "_law_features") (fdOf K "_law_features")
  f__law_lies : Cb K mg "_law_lies" p__law_lies
  u__law_lies : Fun K "_law_lies" "_law_lies" (top 71) (He.ga K "_law_lies") (fdOf K "_law_lies")
  f__law_all_bits : Cb K mg "_law_all_bits" p__law_all_bits
  u__law_all_bits : Fun K "_law_all_bits" "_law_all_bits" (top 72) (He.ga K "_law_all_bits") (fdOf K "_law_all_bits")
  f__law_relations : Cb K mg "_law_relations" p__law_relations
  u__law_relations : Fun K "_law_relations" "_law_relations" (top 73) (He.ga K "_law_relations") (fdOf K "_law_relations")
  f__law_list_right : Cb K mg "_law_list_right" p__law_list_right
  u__law_list_right : Fun K "_law_list_right" "_law_list_right" (top 74) (He.ga K "_law_list_right") (fdOf K "_law_list_right")
  f__law_right : Cb K mg "_law_right" p__law_right
  u__law_right : Fun K "_law_right" "_law_right" (top 75) (He.ga K "_law_right") (fdOf K "_law_right")
  f_law : Cb K mg "law" p_law
  u_law : Fun K "law" "law" (top 76) (He.ga K "law") (fdOf K "law")
  b_all : mg "all" = none
  b_any : mg "any" = none
  b_bool : mg "bool" = none
  b_enumerate : mg "enumerate" = none
  b_int : mg "int" = none
  b_isinstance : mg "isinstance" = none
  b_len : mg "len" = none
  b_max : mg "max" = none
  b_min : mg "min" = none
  b_range : mg "range" = none
  b_repr : mg "repr" = none
  b_set : mg "set" = none
  b_sorted : mg "sorted" = none
  b_str : mg "str" = none
  b_sum : mg "sum" = none
  b_tuple : mg "tuple" = none
  b_zip : mg "zip" = none
  w_KINDS : WrK K mg "KINDS" w_KINDS
  w_MOST_COUNTED : WrK K mg "MOST_COUNTED" w_MOST_COUNTED
  w_MOST_LISTED : WrK K mg "MOST_LISTED" w_MOST_LISTED
  w_MOST_PLACES : WrK K mg "MOST_PLACES" w_MOST_PLACES
  w_MOST_ROWS : WrK K mg "MOST_ROWS" w_MOST_ROWS
  w_ORDERED : WrK K mg "ORDERED" w_ORDERED
  t_FALLING : KTabK K mg w "FALLING" t_FALLING
  t_RISING : KTabK K mg w "RISING" t_RISING
  c_is_row : He.cT K ("is_row", none) ∈ cs ∧ TabB base mg (He.cT K ("is_row", none)).1 (He.cT K ("is_row", none)).2 ∧ (fdOf K "is_row").code = .ref (He.cT K ("is_row", none)).1
  c_is_rising : He.cT K ("is_rising", none) ∈ cs ∧ TabB base mg (He.cT K ("is_rising", none)).1 (He.cT K ("is_rising", none)).2 ∧ (fdOf K "is_rising").code = .ref (He.cT K ("is_rising", none)).1
  c_is_relation_form : He.cT K ("is_relation_form", none) ∈ cs ∧ TabB base mg (He.cT K ("is_relation_form", none)).1 (He.cT K ("is_relation_form", none)).2 ∧ (fdOf K "is_relation_form").code = .ref (He.cT K ("is_relation_form", none)).1
  c_holds_to : He.cT K ("holds_to", none) ∈ cs ∧ TabB base mg (He.cT K ("holds_to", none)).1 (He.cT K ("holds_to", none)).2 ∧ (fdOf K "holds_to").code = .ref (He.cT K ("holds_to", none)).1
  c_row_sum : He.cT K ("row_sum", none) ∈ cs ∧ TabB base mg (He.cT K ("row_sum", none)).1 (He.cT K ("row_sum", none)).2 ∧ (fdOf K "row_sum").code = .ref (He.cT K ("row_sum", none)).1
  c_plain_masks : He.cT K ("plain_masks", none) ∈ cs ∧ TabB base mg (He.cT K ("plain_masks", none)).1 (He.cT K ("plain_masks", none)).2 ∧ (fdOf K "plain_masks").code = .ref (He.cT K ("plain_masks", none)).1
  c_need_rows : He.cT K ("need_rows", none) ∈ cs ∧ TabB base mg (He.cT K ("need_rows", none)).1 (He.cT K ("need_rows", none)).2 ∧ (fdOf K "need_rows").code = .ref (He.cT K ("need_rows", none)).1
  c_mask_of_rows : He.cT K ("mask_of_rows", none) ∈ cs ∧ TabB base mg (He.cT K ("mask_of_rows", none)).1 (He.cT K ("mask_of_rows", none)).2 ∧ (fdOf K "mask_of_rows").code = .ref (He.cT K ("mask_of_rows", none)).1
structure AllOk (P : Program) (w : World) (K : PySem.W.Frag) (mg : PySem.Str → Option Value) (base : Heap) (cs : List (Addr × Addr)) (k l : Nat) : Prop where
  k_is_integer : Ok1 P w K mg base (tbC cs) tab PP k l "is_integer" p_is_integer
  k_is_within : Ok1 P w K mg base (tbC cs) tab PP k l "is_within" p_is_within
  k_is_value : Ok1 P w K mg base (tbC cs) tab PP k l "is_value" p_is_value
  k_is_row : Ok1 P w K mg base (tbC cs) tab PP k l "is_row" p_is_row
  k_is_rising : Ok1 P w K mg base (tbC cs) tab PP k l "is_rising" p_is_rising
  k_is_tuple_of : Ok1 P w K mg base (tbC cs) tab PP k l "is_tuple_of" p_is_tuple_of
  k_is_word : Ok1 P w K mg base (tbC cs) tab PP k l "is_word" p_is_word
  k_need_number : Ok1 P w K mg base (tbC cs) tab PP k l "need_number" p_need_number
  k_code_of : Ok1 P w K mg base (tbC cs) tab PP k l "code_of" p_code_of
  k_row_of : Ok1 P w K mg base (tbC cs) tab PP k l "row_of" p_row_of
  k_all_rows : Ok1 P w K mg base (tbC cs) tab PP k l "all_rows" p_all_rows
  k_is_relation_form : Ok1 P w K mg base (tbC cs) tab PP k l "is_relation_form" p_is_relation_form
  k_need_relation : Ok1 P w K mg base (tbC cs) tab PP k l "need_relation" p_need_relation
  k_mask_of : Ok1 P w K mg base (tbC cs) tab PP k l "mask_of" p_mask_of
  k_relation_of : Ok1 P w K mg base (tbC cs) tab PP k l "relation_of" p_relation_of
  k_full_mask : Ok1 P w K mg base (tbC cs) tab PP k l "full_mask" p_full_mask
  k_holds_to : Ok1 P w K mg base (tbC cs) tab PP k l "holds_to" p_holds_to
  k_all_clauses : Ok1 P w K mg base (tbC cs) tab PP k l "all_clauses" p_all_clauses
  k_noughts_in : Ok1 P w K mg base (tbC cs) tab PP k l "noughts_in" p_noughts_in
  k_ones_in : Ok1 P w K mg base (tbC cs) tab PP k l "ones_in" p_ones_in
  k_row_sum : Ok1 P w K mg base (tbC cs) tab PP k l "row_sum" p_row_sum
  k_fits_equation : Ok1 P w K mg base (tbC cs) tab PP k l "fits_equation" p_fits_equation
  k_all_equations : Ok1 P w K mg base (tbC cs) tab PP k l "all_equations" p_all_equations
  k_need_kind : Ok1 P w K mg base (tbC cs) tab PP k l "need_kind" p_need_kind
  k_lets_clause : Ok1 P w K mg base (tbC cs) tab PP k l "lets_clause" p_lets_clause
  k_lets_equation : Ok1 P w K mg base (tbC cs) tab PP k l "lets_equation" p_lets_equation
  k_plain_masks : Ok1 P w K mg base (tbC cs) tab PP k l "plain_masks" p_plain_masks
  k_least_mask : Ok1 P w K mg base (tbC cs) tab PP k l "least_mask" p_least_mask
  k_least_of : Ok1 P w K mg base (tbC cs) tab PP k l "least_of" p_least_of
  k_lies_at : Ok1 P w K mg base (tbC cs) tab PP k l "lies_at" p_lies_at
  k_is_in : Ok1 P w K mg base (tbC cs) tab PP k l "is_in" p_is_in
  k_least_in : Ok1 P w K mg base (tbC cs) tab PP k l "least_in" p_least_in
  k_masks_in : Ok1 P w K mg base (tbC cs) tab PP k l "masks_in" p_masks_in
  k_kind_sizes : Ok1 P w K mg base (tbC cs) tab PP k l "kind_sizes" p_kind_sizes
  k_all_in : Ok1 P w K mg base (tbC cs) tab PP k l "all_in" p_all_in
  k_need_rows : Ok1 P w K mg base (tbC cs) tab PP k l "need_rows" p_need_rows
  k_mask_of_rows : Ok1 P w K mg base (tbC cs) tab PP k l "mask_of_rows" p_mask_of_rows
  k_least_for : Ok1 P w K mg base (tbC cs) tab PP k l "least_for" p_least_for
  k_fitted : Ok1 P w K mg base (tbC cs) tab PP k l "fitted" p_fitted
  k__law_pot : Ok1 P w K mg base (tbC cs) tab PP k l "_law_pot" p__law_pot
  k__law_draw : Ok1 P w K mg base (tbC cs) tab PP k l "_law_draw" p__law_draw
  k__law_rows : Ok1 P w K mg base (tbC cs) tab PP k l "_law_rows" p__law_rows
  k__law_kinds : Ok1 P w K mg base (tbC cs) tab PP k l "_law_kinds" p__law_kinds
  k__law_clause_masks : Ok1 P w K mg base (tbC cs) tab PP k l "_law_clause_masks" p__law_clause_masks
  k__law_sum_masks : Ok1 P w K mg base (tbC cs) tab PP k l "_law_sum_masks" p__law_sum_masks
  k__law_has_clause : Ok1 P w K mg base (tbC cs) tab PP k l "_law_has_clause" p__law_has_clause
  k__law_kind_masks : Ok1 P w K mg base (tbC cs) tab PP k l "_law_kind_masks" p__law_kind_masks
  k__law_unbits : Ok1 P w K mg base (tbC cs) tab PP k l "_law_unbits" p__law_unbits
  k__law_features : Ok1 P w K mg base (tbC cs) tab PP k l "_law_features" p__law_features
  k__law_lies : Ok1 P w K mg base (tbC cs) tab PP k l "_law_lies" p__law_lies
  k__law_all_bits : Ok1 P w K mg base (tbC cs) tab PP k l "_law_all_bits" p__law_all_bits
  k__law_relations : Ok1 P w K mg base (tbC cs) tab PP k l "_law_relations" p__law_relations
  k__law_list_right : Ok1 P w K mg base (tbC cs) tab PP k l "_law_list_right" p__law_list_right
  k__law_right : Ok1 P w K mg base (tbC cs) tab PP k l "_law_right" p__law_right
  k_law : Ok1 P w K mg base (tbC cs) tab PP k l "law" p_law
section
variable {P : Program} {w : World} {K : PySem.W.Frag} {mg : PySem.Str → Option Value} {base : Heap} {cs : List (Addr × Addr)} {k : Nat}
theorem kb_all_in_0_places_kind (g : Gf K mg w base cs) : KwB K (fdOf K "all_in") p_all_in ["places", "kind"] 0 [1, 0] := fun_kwb g.u_all_in fun _ _ _ _ _ _ us ws h1 h2 => match us, ws, h1, h2 with | [], [_, _], _, _ => rfl
theorem kb_kind_sizes_0_places (g : Gf K mg w base cs) : KwB K (fdOf K "kind_sizes") p_kind_sizes ["places"] 0 [0] := fun_kwb g.u_kind_sizes fun _ _ _ _ _ _ us ws h1 h2 => match us, ws, h1, h2 with | [], [_], _, _ => rfl
theorem S_is_integer : FnScope N_is_integer p_is_integer (defScope (top 8)) := fs_mk
theorem W_is_integer (g : Gf K mg w base cs) (ok : AllOk P w K mg base cs k (3 * k)) : Ok1 P w K mg base (tbC cs) tab PP (k + 1) (3 * k + 2 + 1) "is_integer" p_is_integer :=
  def_okC (d := D_is_integer) g.u_is_integer S_is_integer (by kernel_rfl) rfl (by decide) rfl (tbC_ok cs) fun cdv A outer s H hcd r c => (b_cons (s_ret (m_and (m_isi (x := "") m_var c (by decide) g.b_isinstance g.b_int (by decide +kernel)) (m_last (m_not (m_isi (x := "") m_var c (by decide) g.b_isinstance g.b_bool (by decide +kernel)))))) b_nil)
theorem S_is_within : FnScope N_is_within p_is_within (defScope (top 9)) := fs_mk
theorem W_is_within (g : Gf K mg w base cs) (ok : AllOk P w K mg base cs k (3 * k)) : Ok1 P w K mg base (tbC cs) tab PP (k + 1) (3 * k + 2 + 1) "is_within" p_is_within :=
  def_okC (d := D_is_within) g.u_is_within S_is_within (by kernel_rfl) rfl (by decide) rfl (tbC_ok cs) fun cdv A outer s H hcd r c => (b_cons (s_ret (m_and (m_callC c ok.k_is_integer (r.mono (by omega)) g.f_is_integer (a_val m_var a_nil)) (m_last (m_chain (fun _ o => dr_le (c.k o) c.units) (fun _ o => dr_le (c.k o) c.units) o_var o_var o_var)))) b_nil)
theorem S_is_value : FnScope N_is_value p_is_value (defScope (top 10)) := fs_mk
theorem W_is_value (g : Gf K mg w base cs) (ok : AllOk P w K mg base cs k (3 * k)) : Ok1 P w K mg base (tbC cs) tab PP (k + 1) (3 * k + 2 + 1) "is_value" p_is_value :=
  def_okC (d := D_is_value) g.u_is_value S_is_value (by kernel_rfl) rfl (by decide) rfl (tbC_ok cs) fun cdv A outer s H hcd r c => (b_cons (s_ret (m_callC c ok.k_is_within (r.mono (by omega)) g.f_is_within (a_val m_var (a_val m_int (a_val m_int a_nil))))) b_nil)
theorem S_is_row : FnScope N_is_row p_is_row (defScope (top 11)) := fs_mk
theorem W_is_row (g : Gf K mg w base cs) (ok : AllOk P w K mg base cs k (3 * k)) : Ok1 P w K mg base (tbC cs) tab PP (k + 1) (3 * k + 2 + 1) "is_row" p_is_row :=
  def_okC (d := D_is_row) g.u_is_row S_is_row (by kernel_rfl) rfl (by decide) rfl (tbC_ok cs) fun cdv A outer s H hcd r c => (b_cons (s_ret (m_and (m_isi (x := "") m_var c (by decide) g.b_isinstance g.b_tuple (by decide +kernel)) (m_more (m_and (m_cmp (fun _ o => dr_eq (c.k o) c.units) (o_prim (m_bi (fun _ o => cb_len (c.k o)) (os_cons o_var os_nil) g.b_len (by decide +kernel))) o_var) (m_last (m_allS (own := [("one", 2)]) c (gcd_mk g.c_is_row.1 g.c_is_row.2.1 (hcd.symm.trans g.c_is_row.2.2) r) (i_seq c m_var) g.b_all blk_mk (fun _ _ _ _ _ _ _ => (g_nm (c.gen r))) (fun _ _ _ _ _ _ _ => ts_nil) (fun _ _ _ _ _ _ _ => (m_callC (c.gen r) ok.k_is_value ((room_gA r).mono (by omega)) g.f_is_value (a_val m_var a_nil))))))))) b_nil)
theorem S_is_rising : FnScope N_is_rising p_is_rising (defScope (top 12)) := fs_mk
theorem W_is_rising (g : Gf K mg w base cs) (ok : AllOk P w K mg base cs k (3 * k)) : Ok1 P w K mg base (tbC cs) tab PP (k + 1) (3 * k + 2 + 1) "is_rising" p_is_rising :=
  def_okC (d := D_is_rising) g.u_is_rising S_is_rising (by kernel_rfl) rfl (by decide) rfl (tbC_ok cs) fun cdv A outer s H hcd r c => (b_cons (s_ret (m_allS (own := [("one", 1), ("two", 2)]) c (gcd_mk g.c_is_rising.1 g.c_is_rising.2.1 (hcd.symm.trans g.c_is_rising.2.2) r) (i_zip c m_var (m_sl10 c o_var o_int) g.b_zip) g.b_all blk_mk (fun _ _ _ _ _ _ _ => (g_tp (c.gen r) (pgs_cons' (c.gen r) (pgs_cons' (c.gen r) pgs_nil)) rfl)) (fun _ _ _ _ _ _ _ => ts_nil) (fun _ _ _ _ _ _ _ => (m_cmp (fun _ o => dr_lt ((c.gen r).k o) (c.gen r).units) o_var o_var)))) b_nil)
theorem S_is_tuple_of : FnScope N_is_tuple_of p_is_tuple_of (defScope (top 13)) := fs_mk
theorem W_is_tuple_of (g : Gf K mg w base cs) (ok : AllOk P w K mg base cs k (3 * k)) : Ok1 P w K mg base (tbC cs) tab PP (k + 1) (3 * k + 2 + 1) "is_tuple_of" p_is_tuple_of :=
  def_okC (d := D_is_tuple_of) g.u_is_tuple_of S_is_tuple_of (by kernel_rfl) rfl (by decide) rfl (tbC_ok cs) fun cdv A outer s H hcd r c => (b_cons (s_ret (m_and (m_isi (x := "") m_var c (by decide) g.b_isinstance g.b_tuple (by decide +kernel)) (m_last (m_chain (fun _ o => dr_le (c.k o) c.units) (fun _ o => dr_le (c.k o) c.units) o_var (o_prim (m_bi (fun _ o => cb_len (c.k o)) (os_cons o_var os_nil) g.b_len (by decide +kernel))) o_var)))) b_nil)
theorem S_is_word : FnScope N_is_word p_is_word (defScope (top 14)) := fs_mk
theorem W_is_word (g : Gf K mg w base cs) (ok : AllOk P w K mg base cs k (3 * k)) : Ok1 P w K mg base (tbC cs) tab PP (k + 1) (3 * k + 2 + 1) "is_word" p_is_word :=
  def_okC (d := D_is_word) g.u_is_word S_is_word (by kernel_rfl) rfl (by decide) rfl (tbC_ok cs) fun cdv A outer s H hcd r c => (b_cons (s_ret (m_and (m_isi (x := "") m_var c (by decide) g.b_isinstance g.b_str (by decide +kernel)) (m_last (m_cmp (fun _ o => dr_in (c.k o) c.units) o_var o_var)))) b_nil)
theorem S_need_number : FnScope N_need_number p_need_number (defScope (top 15)) := fs_mk
theorem W_need_number (g : Gf K mg w base cs) (ok : AllOk P w K mg base cs k (3 * k)) : Ok1 P w K mg base (tbC cs) tab PP (k + 1) (3 * k + 2 + 1) "need_number" p_need_number :=
  def_okC (d := D_need_number) g.u_need_number S_need_number (by kernel_rfl) rfl (by decide) rfl (tbC_ok cs) fun cdv A outer s H hcd r c => (b_cons (s_if (t_not (t_val (m_callC c ok.k_is_within (r.mono (by omega)) g.f_is_within (a_val m_var (a_val m_var (a_val m_var a_nil)))))) (b_cons s_rais b_nil) b_nil) b_nil)
theorem S_code_of : FnScope N_code_of p_code_of (defScope (top 16)) := fs_mk
theorem W_code_of (g : Gf K mg w base cs) (ok : AllOk P w K mg base cs k (3 * k)) : Ok1 P w K mg base (tbC cs) tab PP (k + 1) (3 * k + 2 + 1) "code_of" p_code_of :=
  def_okC (d := D_code_of) g.u_code_of S_code_of (by kernel_rfl) rfl (by decide) rfl (tbC_ok cs) fun cdv A outer s H hcd r c => (b_cons (s_set c m_int) (b_cons (s_for c (i_seq c m_var) (g_nm c) (b_cons (s_set c (m_op (fun _ o => dr_add (c.k o) (c.t o)) (o_prim (m_op (fun _ _ => dr_mul) o_var o_int)) o_var)) b_nil)) (b_cons s_retV b_nil)))
theorem S_row_of : FnScope N_row_of p_row_of (defScope (top 17)) := fs_mk
theorem W_row_of (g : Gf K mg w base cs) (ok : AllOk P w K mg base cs k (3 * k)) : Ok1 P w K mg base (tbC cs) tab PP (k + 1) (3 * k + 2 + 1) "row_of" p_row_of :=
  def_okC (d := D_row_of) g.u_row_of S_row_of (by kernel_rfl) rfl (by decide) rfl (tbC_ok cs) fun cdv A outer s H hcd r c => (b_cons (s_ret (m_ty (fun _ o => cb_tuple (c.k o) (c.t o)) (os_cons (o_pl (m_comp c (own := [("at", 2)]) (i_rng1 m_var g.b_range) blk_mk (fun _ _ _ _ _ => (g_nm (c.blk))) (fun _ _ _ _ _ => ts_nil) (fun _ _ _ _ _ => (m_op (fun _ _ => dr_band) (o_prim (m_op (fun _ _ => dr_shr) o_var (o_prim (m_op (fun _ _ => dr_sub) (o_prim (m_op (fun _ _ => dr_sub) o_var o_int)) o_var)))) o_int)))) os_nil) g.b_tuple (by decide +kernel))) b_nil)
theorem S_all_rows : FnScope N_all_rows p_all_rows (defScope (top 18)) := fs_mk
theorem W_all_rows (g : Gf K mg w base cs) (ok : AllOk P w K mg base cs k (3 * k)) : Ok1 P w K mg base (tbC cs) tab PP (k + 1) (3 * k + 2 + 1) "all_rows" p_all_rows :=
  def_okC (d := D_all_rows) g.u_all_rows S_all_rows (by kernel_rfl) rfl (by decide) rfl (tbC_ok cs) fun cdv A outer s H hcd r c => (b_cons (s_ret (m_comp c (own := [("code", 1)]) (i_rng1 (m_op (fun _ _ => dr_shl) o_int o_var) g.b_range) blk_mk (fun _ _ _ _ _ => (g_nm (c.blk))) (fun _ _ _ _ _ => ts_nil) (fun _ _ _ _ _ => (m_callC (c.blk) ok.k_row_of (r.mono (by omega)) g.f_row_of (a_val m_var (a_val m_var a_nil)))))) b_nil)
theorem S_is_relation_form : FnScope N_is_relation_form p_is_relation_form (defScope (top 21)) := fs_mk
theorem W_is_relation_form (g : Gf K mg w base cs) (ok : AllOk P w K mg base cs k (3 * k)) : Ok1 P w K mg base (tbC cs) tab PP (k + 1) (3 * k + 2 + 1) "is_relation_form" p_is_relation_form :=
  def_okC (d := D_is_relation_form) g.u_is_relation_form S_is_relation_form (by kernel_rfl) rfl (by decide) rfl (tbC_ok cs) fun cdv A outer s H hcd r c => (b_cons (s_if (eW.eT (w_or (t_not (t_val (m_callC c ok.k_is_tuple_of (r.mono (by omega)) g.f_is_tuple_of (a_val m_var (a_val m_int (a_val m_int a_nil)))))) (w_or1 (t_not (t_val (m_callC c ok.k_is_within (r.mono (by omega)) g.f_is_within (a_val (m_ix c o_var o_int) (a_val m_int (a_val (m_glb g.w_MOST_PLACES) a_nil))))))))) (b_cons (s_ret m_bl) b_nil) b_nil) (b_cons (s_if (t_not (t_val (m_callC c ok.k_is_tuple_of (r.mono (by omega)) g.f_is_tuple_of (a_val (m_ix c o_var o_int) (a_val m_int (a_val (m_glb g.w_MOST_ROWS) a_nil)))))) (b_cons (s_ret m_bl) b_nil) b_nil) (b_cons (s_ret (m_and (m_allS (own := [("row", 1)]) c (gcd_mk g.c_is_relation_form.1 g.c_is_relation_form.2.1 (hcd.symm.trans g.c_is_relation_form.2.2) r) (i_seq c (m_ix c o_var o_int)) g.b_all blk_mk (fun _ _ _ _ _ _ _ => (g_nm (c.gen r))) (fun _ _ _ _ _ _ _ => ts_nil) (fun _ _ _ _ _ _ _ => (m_callC (c.gen r) ok.k_is_row ((room_gA r).mono (by omega)) g.f_is_row (a_val m_var (a_val (m_ix (c.gen r) o_var o_int) a_nil))))) (m_last (m_callC c ok.k_is_rising (r.mono (by omega)) g.f_is_rising (a_val (m_ix c o_var o_int) a_nil))))) b_nil)))
theorem S_need_relation : FnScope N_need_relation p_need_relation (defScope (top 22)) := fs_mk
theorem W_need_relation (g : Gf K mg w base cs) (ok : AllOk P w K mg base cs k (3 * k)) : Ok1 P w K mg base (tbC cs) tab PP (k + 1) (3 * k + 2 + 1) "need_relation" p_need_relation :=
  def_okC (d := D_need_relation) g.u_need_relation S_need_relation (by kernel_rfl) rfl (by decide) rfl (tbC_ok cs) fun cdv A outer s H hcd r c => (b_cons (s_if (t_not (t_val (m_callC c ok.k_is_relation_form (r.mono (by omega)) g.f_is_relation_form (a_val m_var a_nil)))) (b_cons s_rais b_nil) b_nil) b_nil)
theorem S_mask_of : FnScope N_mask_of p_mask_of (defScope (top 23)) := fs_mk
theorem W_mask_of (g : Gf K mg w base cs) (ok : AllOk P w K mg base cs k (3 * k)) : Ok1 P w K mg base (tbC cs) tab PP (k + 1) (3 * k + 2 + 1) "mask_of" p_mask_of :=
  def_okC (d := D_mask_of) g.u_mask_of S_mask_of (by kernel_rfl) rfl (by decide) rfl (tbC_ok cs) fun cdv A outer s H hcd r c => (b_cons (s_set c m_int) (b_cons (s_for c (i_seq c (m_ix c o_var o_int)) (g_nm c) (b_cons (s_aug c (fun _ _ => di_or) (o_prim (m_op (fun _ _ => dr_shl) o_int (o_pl (m_callC c ok.k_code_of (r.mono (by omega)) g.f_code_of (a_val m_var a_nil)))))) b_nil)) (b_cons s_retV b_nil)))
theorem S_relation_of : FnScope N_relation_of p_relation_of (defScope (top 24)) := fs_mk
theorem W_relation_of (g : Gf K mg w base cs) (ok : AllOk P w K mg base cs k (3 * k)) : Ok1 P w K mg base (tbC cs) tab PP (k + 1) (3 * k + 2 + 1) "relation_of" p_relation_of :=
  def_okC (d := D_relation_of) g.u_relation_of S_relation_of (by kernel_rfl) rfl (by decide) rfl (tbC_ok cs) fun cdv A outer s H hcd r c => (b_cons (s_ret (m_tup c (ms_cons m_var (ms_cons (m_ty (fun _ o => cb_tuple (c.k o) (c.t o)) (os_cons (o_pl (m_comp c (own := [("code", 2)]) (i_rng1 (m_op (fun _ _ => dr_shl) o_int o_var) g.b_range) blk_mk (fun _ _ _ _ _ => (g_nm (c.blk))) (fun _ _ _ _ _ => (ts_one (t_cmp (fun _ o => dr_eq ((c.blk).k o) (c.blk).units) (o_prim (m_op (fun _ _ => dr_band) (o_prim (m_op (fun _ _ => dr_shr) o_var o_var)) o_int)) o_int))) (fun _ _ _ _ _ => (m_callC (c.blk) ok.k_row_of (r.mono (by omega)) g.f_row_of (a_val m_var (a_val m_var a_nil)))))) os_nil) g.b_tuple (by decide +kernel)) ms_nil)))) b_nil)
theorem S_full_mask : FnScope N_full_mask p_full_mask (defScope (top 25)) := fs_mk
theorem W_full_mask (g : Gf K mg w base cs) (ok : AllOk P w K mg base cs k (3 * k)) : Ok1 P w K mg base (tbC cs) tab PP (k + 1) (3 * k + 2 + 1) "full_mask" p_full_mask :=
  def_okC (d := D_full_mask) g.u_full_mask S_full_mask (by kernel_rfl) rfl (by decide) rfl (tbC_ok cs) fun cdv A outer s H hcd r c => (b_cons (s_ret (m_op (fun _ _ => dr_sub) (o_prim (m_op (fun _ _ => dr_shl) o_int (o_prim (m_op (fun _ _ => dr_shl) o_int o_var)))) o_int)) b_nil)
theorem S_holds_to : FnScope N_holds_to p_holds_to (defScope (top 27)) := fs_mk
theorem W_holds_to (g : Gf K mg w base cs) (ok : AllOk P w K mg base cs k (3 * k)) : Ok1 P w K mg base (tbC cs) tab PP (k + 1) (3 * k + 2 + 1) "holds_to" p_holds_to :=
  def_okC (d := D_holds_to) g.u_holds_to S_holds_to (by kernel_rfl) rfl (by decide) rfl (tbC_ok cs) fun cdv A outer s H hcd r c => (b_cons (s_ret (m_anyS (own := [("place", 2), ("value", 3)]) c (gcd_mk g.c_holds_to.1 g.c_holds_to.2.1 (hcd.symm.trans g.c_holds_to.2.2) r) (i_seq c m_var) g.b_any blk_mk (fun _ _ _ _ _ _ _ => (g_tp (c.gen r) (pgs_cons' (c.gen r) (pgs_cons' (c.gen r) pgs_nil)) rfl)) (fun _ _ _ _ _ _ _ => ts_nil) (fun _ _ _ _ _ _ _ => (m_cmp (fun _ o => dr_eq ((c.gen r).k o) (c.gen r).units) (o_prim (m_ix (c.gen r) o_var o_var)) o_var)))) b_nil)
theorem S_all_clauses : FnScope N_all_clauses p_all_clauses (defScope (top 28)) := fs_mk
theorem W_all_clauses (g : Gf K mg w base cs) (ok : AllOk P w K mg base cs k (3 * k)) : Ok1 P w K mg base (tbC cs) tab PP (k + 1) (3 * k + 2 + 1) "all_clauses" p_all_clauses :=
  def_okC (d := D_all_clauses) g.u_all_clauses S_all_clauses (by kernel_rfl) rfl (by decide) rfl (tbC_ok cs) fun cdv A outer s H hcd r c => (b_cons (s_set c (m_lst c (ms_cons (m_tup c ms_nil) ms_nil))) (b_cons (s_for c (i_rng1 m_var g.b_range) (g_nm c) (b_cons (s_set c (m_op (fun _ o => dr_add (c.k o) (c.t o)) o_var (o_pl (m_comp2 c (own := [("clause", 3), ("value", 4)]) (us := [4]) (i_seq c m_var) blk_mk (fun _ _ _ _ _ => (g_nm (c.blk))) (fun _ _ _ _ _ => ts_nil) (fun _ _ _ _ _ => (i_seq (c.blk) (m_tup (c.blk) (ms_cons m_int (ms_cons m_int ms_nil))))) (fun _ _ _ _ _ => (g_nm (c.blk))) (fun _ _ _ _ _ => ts_nil) (fun _ _ _ _ _ => (m_op (fun _ o => dr_add ((c.blk).k o) (c.t o)) o_var (o_pl (m_tup (c.blk) (ms_cons (m_tup (c.blk) (ms_cons m_var (ms_cons m_var ms_nil))) ms_nil))))))))) b_nil)) (b_cons (s_ret (m_bi (fun _ o => cb_sorted (c.k o) (c.t o) c.units) (os_cons o_var os_nil) g.b_sorted (by decide +kernel))) b_nil)))
theorem S_noughts_in : FnScope N_noughts_in p_noughts_in (defScope (top 29)) := fs_mk
theorem W_noughts_in (g : Gf K mg w base cs) (ok : AllOk P w K mg base cs k (3 * k)) : Ok1 P w K mg base (tbC cs) tab PP (k + 1) (3 * k + 2 + 1) "noughts_in" p_noughts_in :=
  def_okC (d := D_noughts_in) g.u_noughts_in S_noughts_in (by kernel_rfl) rfl (by decide) rfl (tbC_ok cs) fun cdv A outer s H hcd r c => (b_cons (s_ret (m_bi (fun _ o => cb_len (c.k o)) (os_cons (o_pl (m_comp c (own := [("place", 1), ("value", 2)]) (i_seq c m_var) blk_mk (fun _ _ _ _ _ => (g_tp (c.blk) (pgs_cons' (c.blk) (pgs_cons' (c.blk) pgs_nil)) rfl)) (fun _ _ _ _ _ => (ts_one (t_cmp (fun _ o => dr_eq ((c.blk).k o) (c.blk).units) o_var o_int))) (fun _ _ _ _ _ => m_int))) os_nil) g.b_len (by decide +kernel))) b_nil)
theorem S_ones_in : FnScope N_ones_in p_ones_in (defScope (top 30)) := fs_mk
theorem W_ones_in (g : Gf K mg w base cs) (ok : AllOk P w K mg base cs k (3 * k)) : Ok1 P w K mg base (tbC cs) tab PP (k + 1) (3 * k + 2 + 1) "ones_in" p_ones_in :=
  def_okC (d := D_ones_in) g.u_ones_in S_ones_in (by kernel_rfl) rfl (by decide) rfl (tbC_ok cs) fun cdv A outer s H hcd r c => (b_cons (s_ret (m_op (fun _ _ => dr_sub) (o_prim (m_bi (fun _ o => cb_len (c.k o)) (os_cons o_var os_nil) g.b_len (by decide +kernel))) (o_pl (m_callC c ok.k_noughts_in (r.mono (by omega)) g.f_noughts_in (a_val m_var a_nil))))) b_nil)
theorem S_row_sum : FnScope N_row_sum p_row_sum (defScope (top 32)) := fs_mk
theorem W_row_sum (g : Gf K mg w base cs) (ok : AllOk P w K mg base cs k (3 * k)) : Ok1 P w K mg base (tbC cs) tab PP (k + 1) (3 * k + 2 + 1) "row_sum" p_row_sum :=
  def_okC (d := D_row_sum) g.u_row_sum S_row_sum (by kernel_rfl) rfl (by decide) rfl (tbC_ok cs) fun cdv A outer s H hcd r c => (b_cons (s_ret (m_op (fun _ _ => dr_mod) (o_pl (m_sumS (own := [("place", 2)]) c (gcd_mk g.c_row_sum.1 g.c_row_sum.2.1 (hcd.symm.trans g.c_row_sum.2.2) r) (i_seq c m_var) g.b_sum blk_mk (fun _ _ _ _ _ _ _ => (g_nm (c.gen r))) (fun _ _ _ _ _ _ _ => ts_nil) (fun _ _ _ _ _ _ _ => (m_ix (c.gen r) o_var o_var)))) o_int)) b_nil)
theorem S_fits_equation : FnScope N_fits_equation p_fits_equation (defScope (top 33)) := fs_mk
theorem W_fits_equation (g : Gf K mg w base cs) (ok : AllOk P w K mg base cs k (3 * k)) : Ok1 P w K mg base (tbC cs) tab PP (k + 1) (3 * k + 2 + 1) "fits_equation" p_fits_equation :=
  def_okC (d := D_fits_equation) g.u_fits_equation S_fits_equation (by kernel_rfl) rfl (by decide) rfl (tbC_ok cs) fun cdv A outer s H hcd r c => (b_cons (s_ret (m_cmp (fun _ o => dr_eq (c.k o) c.units) (o_pl (m_callC c ok.k_row_sum (r.mono (by omega)) g.f_row_sum (a_val m_var (a_val (m_ix c o_var o_int) a_nil)))) (o_prim (m_ix c o_var o_int)))) b_nil)
theorem S_all_equations : FnScope N_all_equations p_all_equations (defScope (top 34)) := fs_mk
theorem W_all_equations (g : Gf K mg w base cs) (ok : AllOk P w K mg base cs k (3 * k)) : Ok1 P w K mg base (tbC cs) tab PP (k + 1) (3 * k + 2 + 1) "all_equations" p_all_equations :=
  def_okC (d := D_all_equations) g.u_all_equations S_all_equations (by kernel_rfl) rfl (by decide) rfl (tbC_ok cs) fun cdv A outer s H hcd r c => (b_cons (s_set c (m_lst c (ms_cons (m_tup c ms_nil) ms_nil))) (b_cons (s_for c (i_rng1 m_var g.b_range) (g_nm c) (b_cons (s_set c (m_op (fun _ o => dr_add (c.k o) (c.t o)) o_var (o_pl (m_comp c (own := [("some", 3)]) (i_seq c m_var) blk_mk (fun _ _ _ _ _ => (g_nm (c.blk))) (fun _ _ _ _ _ => ts_nil) (fun _ _ _ _ _ => (m_op (fun _ o => dr_add ((c.blk).k o) (c.t o)) o_var (o_pl (m_tup (c.blk) (ms_cons m_var ms_nil))))))))) b_nil)) (b_cons (s_ret (m_comp2 c (own := [("some", 3), ("value", 4)]) (us := [4]) (i_seq c (m_bi (fun _ o => cb_sorted (c.k o) (c.t o) c.units) (os_cons o_var os_nil) g.b_sorted (by decide +kernel))) blk_mk (fun _ _ _ _ _ => (g_nm (c.blk))) (fun _ _ _ _ _ => ts_nil) (fun _ _ _ _ _ => (i_seq (c.blk) (m_tup (c.blk) (ms_cons m_int (ms_cons m_int ms_nil))))) (fun _ _ _ _ _ => (g_nm (c.blk))) (fun _ _ _ _ _ => ts_nil) (fun _ _ _ _ _ => (m_tup (c.blk) (ms_cons m_var (ms_cons m_var ms_nil)))))) b_nil)))
theorem S_need_kind : FnScope N_need_kind p_need_kind (defScope (top 40)) := fs_mk
theorem W_need_kind (g : Gf K mg w base cs) (ok : AllOk P w K mg base cs k (3 * k)) : Ok1 P w K mg base (tbC cs) tab PP (k + 1) (3 * k + 2 + 1) "need_kind" p_need_kind :=
  def_okC (d := D_need_kind) g.u_need_kind S_need_kind (by kernel_rfl) rfl (by decide) rfl (tbC_ok cs) fun cdv A outer s H hcd r c => (b_cons (s_if (t_not (t_val (m_callC c ok.k_is_word (r.mono (by omega)) g.f_is_word (a_val m_var (a_val (m_glb g.w_KINDS) a_nil))))) (b_cons s_rais b_nil) b_nil) b_nil)
theorem S_lets_clause : FnScope N_lets_clause p_lets_clause (defScope (top 41)) := fs_mk
theorem W_lets_clause (g : Gf K mg w base cs) (ok : AllOk P w K mg base cs k (3 * k)) : Ok1 P w K mg base (tbC cs) tab PP (k + 1) (3 * k + 2 + 1) "lets_clause" p_lets_clause :=
  def_okC (d := D_lets_clause) g.u_lets_clause S_lets_clause (by kernel_rfl) rfl (by decide) rfl (tbC_ok cs) fun cdv A outer s H hcd r c => (b_cons (s_par3 c (m_bi (fun _ o => cb_len (c.k o)) (os_cons o_var os_nil) g.b_len (by decide +kernel)) (m_callC c ok.k_noughts_in (r.mono (by omega)) g.f_noughts_in (a_val m_var a_nil)) (m_callC c ok.k_ones_in (r.mono (by omega)) g.f_ones_in (a_val m_var a_nil))) (b_cons (s_if (eW.eT (w_or (t_cmp (fun _ o => dr_lt (c.k o) c.units) o_var o_int) (w_or1 (t_cmp (fun _ o => dr_eq (c.k o) c.units) o_var o_str)))) (b_cons (s_ret m_bl) b_nil) b_nil) (b_cons (s_if (t_cmp (fun _ o => dr_eq (c.k o) c.units) o_var o_str) (b_cons (s_ret (m_cmp (fun _ o => dr_eq (c.k o) c.units) o_var o_int)) b_nil) b_nil) (b_cons (s_if (t_cmp (fun _ o => dr_eq (c.k o) c.units) o_var o_str) (b_cons (s_ret (m_cmp (fun _ o => dr_lt (c.k o) c.units) o_var o_int)) b_nil) b_nil) (b_cons (s_if (t_cmp (fun _ o => dr_eq (c.k o) c.units) o_var o_str) (b_cons (s_ret (m_cmp (fun _ o => dr_lt (c.k o) c.units) o_var o_int)) b_nil) b_nil) (b_cons (s_if (eW.eT (w_and (t_cmp (fun _ o => dr_eq (c.k o) c.units) o_var o_int) (w_and1 (t_cmp (fun _ o => dr_eq (c.k o) c.units) o_var o_int)))) (b_cons (s_ret (m_cmp (fun _ o => dr_in (c.k o) c.units) o_var (o_glb g.w_ORDERED))) b_nil) b_nil) (b_cons (s_ret (m_or (m_and (m_cmp (fun _ o => dr_eq (c.k o) c.units) o_var o_int) (m_last (m_cmp (fun _ o => dr_le (c.k o) c.units) o_var (o_pl (m_kget c g.t_RISING m_var m_int))))) (m_last (m_and (m_cmp (fun _ o => dr_eq (c.k o) c.units) o_var o_int) (m_last (m_cmp (fun _ o => dr_le (c.k o) c.units) o_var (o_pl (m_kget c g.t_FALLING m_var m_int)))))))) b_nil)))))))
theorem S_lets_equation : FnScope N_lets_equation p_lets_equation (defScope (top 42)) := fs_mk
theorem W_lets_equation (g : Gf K mg w base cs) (ok : AllOk P w K mg base cs k (3 * k)) : Ok1 P w K mg base (tbC cs) tab PP (k + 1) (3 * k + 2 + 1) "lets_equation" p_lets_equation :=
  def_okC (d := D_lets_equation) g.u_lets_equation S_lets_equation (by kernel_rfl) rfl (by decide) rfl (tbC_ok cs) fun cdv A outer s H hcd r c => (b_cons (s_if (t_cmp (fun _ o => dr_eq (c.k o) c.units) o_var o_str) (b_cons (s_ret m_bl) b_nil) b_nil) (b_cons (s_ret (m_and (m_cmp (fun _ o => dr_eq (c.k o) c.units) (o_prim (m_bi (fun _ o => cb_len (c.k o)) (os_cons (o_prim (m_ix c o_var o_int)) os_nil) g.b_len (by decide +kernel))) o_int) (m_last (m_or (m_cmp (fun _ o => dr_eq (c.k o) c.units) (o_prim (m_ix c o_var o_int)) o_int) (m_last (m_cmp (fun _ o => dr_in (c.k o) c.units) o_var (o_pl (m_tup c (ms_cons m_str (ms_cons m_str ms_nil)))))))))) b_nil))
theorem S_plain_masks : FnScope N_plain_masks p_plain_masks (defScope (top 43)) := fs_mk
theorem W_plain_masks (g : Gf K mg w base cs) (ok : AllOk P w K mg base cs k (3 * k)) : Ok1 P w K mg base (tbC cs) tab PP (k + 1) (3 * k + 2 + 1) "plain_masks" p_plain_masks :=
  def_okC (d := D_plain_masks) g.u_plain_masks S_plain_masks (by kernel_rfl) rfl (by decide) rfl (tbC_ok cs) fun cdv A outer s H hcd r c => (b_cons (s_par c (m_callC c ok.k_all_rows (r.mono (by omega)) g.f_all_rows (a_val m_var a_nil)) (m_lst c ms_nil)) (b_cons (s_for c (i_seq c (m_callC c ok.k_all_clauses (r.mono (by omega)) g.f_all_clauses (a_val m_var a_nil))) (g_nm c) (b_cons (s_if (t_val (m_callC c ok.k_lets_clause (r.mono (by omega)) g.f_lets_clause (a_val m_var (a_val m_var a_nil)))) (b_cons (s_app c (m_sumS (own := [("code", 6), ("row", 7)]) c (gcd_mk g.c_plain_masks.1 g.c_plain_masks.2.1 (hcd.symm.trans g.c_plain_masks.2.2) r) (i_enum c m_var g.b_enumerate) g.b_sum blk_mk (fun _ _ _ _ _ _ _ => (g_tp (c.gen r) (pgs_cons' (c.gen r) (pgs_cons' (c.gen r) pgs_nil)) rfl)) (fun _ _ _ _ _ _ _ => (ts_one (t_val (m_callC (c.gen r) ok.k_holds_to ((room_gA r).mono (by omega)) g.f_holds_to (a_val m_var (a_val m_var a_nil)))))) (fun _ _ _ _ _ _ _ => (m_op (fun _ _ => dr_shl) o_int o_var)))) b_nil) b_nil) b_nil)) (b_cons (s_for c (i_seq c (m_callC c ok.k_all_equations (r.mono (by omega)) g.f_all_equations (a_val m_var a_nil))) (g_nm c) (b_cons (s_if (t_val (m_callC c ok.k_lets_equation (r.mono (by omega)) g.f_lets_equation (a_val m_var (a_val m_var a_nil)))) (b_cons (s_app c (m_sumS (own := [("code", 6), ("row", 7)]) c (gcd_mk g.c_plain_masks.1 g.c_plain_masks.2.1 (hcd.symm.trans g.c_plain_masks.2.2) r) (i_enum c m_var g.b_enumerate) g.b_sum blk_mk (fun _ _ _ _ _ _ _ => (g_tp (c.gen r) (pgs_cons' (c.gen r) (pgs_cons' (c.gen r) pgs_nil)) rfl)) (fun _ _ _ _ _ _ _ => (ts_one (t_val (m_callC (c.gen r) ok.k_fits_equation ((room_gA r).mono (by omega)) g.f_fits_equation (a_val m_var (a_val m_var a_nil)))))) (fun _ _ _ _ _ _ _ => (m_op (fun _ _ => dr_shl) o_int o_var)))) b_nil) b_nil) b_nil)) (b_cons s_retV b_nil))))
theorem S_least_mask : FnScope N_least_mask p_least_mask (defScope (top 44)) := fs_mk
theorem W_least_mask (g : Gf K mg w base cs) (ok : AllOk P w K mg base cs k (3 * k)) : Ok1 P w K mg base (tbC cs) tab PP (k + 1) (3 * k + 2 + 1) "least_mask" p_least_mask :=
  def_okC (d := D_least_mask) g.u_least_mask S_least_mask (by kernel_rfl) rfl (by decide) rfl (tbC_ok cs) fun cdv A outer s H hcd r c => (b_cons (s_set c (m_callC c ok.k_full_mask (r.mono (by omega)) g.f_full_mask (a_val m_var a_nil))) (b_cons (s_for c (i_seq c m_var) (g_nm c) (b_cons (s_if (t_cmp (fun _ o => dr_eq (c.k o) c.units) (o_prim (m_op (fun _ _ => dr_band) o_var (o_prim (m_un (fun _ _ => dr_inv) o_var)))) o_int) (b_cons (s_aug c (fun _ _ => di_and) o_var) b_nil) b_nil) b_nil)) (b_cons s_retV b_nil)))
theorem S_least_of : FnScope N_least_of p_least_of (defScope (top 45)) := fs_mk
theorem W_least_of (g : Gf K mg w base cs) (ok : AllOk P w K mg base cs k (3 * k)) : Ok1 P w K mg base (tbC cs) tab PP (k + 1) (3 * k + 2 + 1) "least_of" p_least_of :=
  def_okC (d := D_least_of) g.u_least_of S_least_of (by kernel_rfl) rfl (by decide) rfl (tbC_ok cs) fun cdv A outer s H hcd r c => (b_cons (s_set c (m_ix c o_var o_int)) (b_cons (s_ret (m_callC c ok.k_relation_of (r.mono (by omega)) g.f_relation_of (a_val m_var (a_val (m_callC c ok.k_least_mask (r.mono (by omega)) g.f_least_mask (a_val (m_callC c ok.k_plain_masks (r.mono (by omega)) g.f_plain_masks (a_val m_var (a_val m_var a_nil))) (a_val m_var (a_val (m_callC c ok.k_mask_of (r.mono (by omega)) g.f_mask_of (a_val m_var a_nil)) a_nil)))) a_nil)))) b_nil))
theorem S_lies_at : FnScope N_lies_at p_lies_at (defScope (top 46)) := fs_mk
theorem W_lies_at (g : Gf K mg w base cs) (ok : AllOk P w K mg base cs k (3 * k)) : Ok1 P w K mg base (tbC cs) tab PP (k + 1) (3 * k + 2 + 1) "lies_at" p_lies_at :=
  def_okC (d := D_lies_at) g.u_lies_at S_lies_at (by kernel_rfl) rfl (by decide) rfl (tbC_ok cs) fun cdv A outer s H hcd r c => (b_cons (s_ret (m_cmp (fun _ o => dr_eq (c.k o) c.units) (o_pl (m_callC c ok.k_least_of (r.mono (by omega)) g.f_least_of (a_val m_var (a_val m_var a_nil)))) o_var)) b_nil)
theorem S_is_in : FnScope N_is_in p_is_in (defScope (top 50)) := fs_mk
theorem W_is_in (g : Gf K mg w base cs) (ok : AllOk P w K mg base cs k (3 * k)) : Ok1 P w K mg base (tbC cs) tab PP (k + 1) (3 * k + 2 + 1) "is_in" p_is_in :=
  def_okC (d := D_is_in) g.u_is_in S_is_in (by kernel_rfl) rfl (by decide) rfl (tbC_ok cs) fun cdv A outer s H hcd r c => (b_cons (s_exp (m_callC c ok.k_need_kind (r.mono (by omega)) g.f_need_kind (a_val m_var a_nil))) (b_cons (s_exp (m_callC c ok.k_need_relation (r.mono (by omega)) g.f_need_relation (a_val m_var a_nil))) (b_cons (s_ret (m_callC c ok.k_lies_at (r.mono (by omega)) g.f_lies_at (a_val m_var (a_val m_var a_nil)))) b_nil)))
theorem S_least_in : FnScope N_least_in p_least_in (defScope (top 51)) := fs_mk
theorem W_least_in (g : Gf K mg w base cs) (ok : AllOk P w K mg base cs k (3 * k)) : Ok1 P w K mg base (tbC cs) tab PP (k + 1) (3 * k + 2 + 1) "least_in" p_least_in :=
  def_okC (d := D_least_in) g.u_least_in S_least_in (by kernel_rfl) rfl (by decide) rfl (tbC_ok cs) fun cdv A outer s H hcd r c => (b_cons (s_exp (m_callC c ok.k_need_kind (r.mono (by omega)) g.f_need_kind (a_val m_var a_nil))) (b_cons (s_exp (m_callC c ok.k_need_relation (r.mono (by omega)) g.f_need_relation (a_val m_var a_nil))) (b_cons (s_ret (m_callC c ok.k_least_of (r.mono (by omega)) g.f_least_of (a_val m_var (a_val m_var a_nil)))) b_nil)))
theorem S_masks_in : FnScope N_masks_in p_masks_in (defScope (top 52)) := fs_mk
theorem W_masks_in (g : Gf K mg w base cs) (ok : AllOk P w K mg base cs k (3 * k)) : Ok1 P w K mg base (tbC cs) tab PP (k + 1) (3 * k + 2 + 1) "masks_in" p_masks_in :=
  def_okC (d := D_masks_in) g.u_masks_in S_masks_in (by kernel_rfl) rfl (by decide) rfl (tbC_ok cs) fun cdv A outer s H hcd r c => (b_cons (s_set c (m_callC c ok.k_plain_masks (r.mono (by omega)) g.f_plain_masks (a_val m_var (a_val m_var a_nil)))) (b_cons (s_ret (m_comp c (own := [("mask", 3)]) (i_rng1 (m_op (fun _ o => dr_add (c.k o) (c.t o)) (o_pl (m_callC c ok.k_full_mask (r.mono (by omega)) g.f_full_mask (a_val m_var a_nil))) o_int) g.b_range) blk_mk (fun _ _ _ _ _ => (g_nm (c.blk))) (fun _ _ _ _ _ => (ts_one (t_cmp (fun _ o => dr_eq ((c.blk).k o) (c.blk).units) (o_pl (m_callC (c.blk) ok.k_least_mask (r.mono (by omega)) g.f_least_mask (a_val m_var (a_val m_var (a_val m_var a_nil))))) o_var))) (fun _ _ _ _ _ => m_var))) b_nil))
theorem S_kind_sizes : FnScope N_kind_sizes p_kind_sizes (defScope (top 53)) := fs_mk
theorem W_kind_sizes (g : Gf K mg w base cs) (ok : AllOk P w K mg base cs k (3 * k)) : Ok1 P w K mg base (tbC cs) tab PP (k + 1) (3 * k + 2 + 1) "kind_sizes" p_kind_sizes :=
  def_okC (d := D_kind_sizes) g.u_kind_sizes S_kind_sizes (by kernel_rfl) rfl (by decide) rfl (tbC_ok cs) fun cdv A outer s H hcd r c => (b_cons (s_exp (m_callC c ok.k_need_number (r.mono (by omega)) g.f_need_number (a_val m_var (a_val m_int (a_val (m_glb g.w_MOST_COUNTED) a_nil))))) (b_cons (s_ret (m_ty (fun _ o => cb_tuple (c.k o) (c.t o)) (os_cons (o_prim (m_bi (fun _ o => cb_sorted (c.k o) (c.t o) c.units) (os_cons (o_pl (m_comp c (own := [("kind", 1)]) (i_seq c (m_glb g.w_KINDS)) blk_mk (fun _ _ _ _ _ => (g_nm (c.blk))) (fun _ _ _ _ _ => ts_nil) (fun _ _ _ _ _ => (m_tup (c.blk) (ms_cons m_var (ms_cons (m_bi (fun _ o => cb_len ((c.blk).k o)) (os_cons (o_pl (m_callC (c.blk) ok.k_masks_in (r.mono (by omega)) g.f_masks_in (a_val m_var (a_val m_var a_nil)))) os_nil) g.b_len (by decide +kernel)) ms_nil)))))) os_nil) g.b_sorted (by decide +kernel))) os_nil) g.b_tuple (by decide +kernel))) b_nil))
theorem S_all_in : FnScope N_all_in p_all_in (defScope (top 54)) := fs_mk
theorem W_all_in (g : Gf K mg w base cs) (ok : AllOk P w K mg base cs k (3 * k)) : Ok1 P w K mg base (tbC cs) tab PP (k + 1) (3 * k + 2 + 1) "all_in" p_all_in :=
  def_okC (d := D_all_in) g.u_all_in S_all_in (by kernel_rfl) rfl (by decide) rfl (tbC_ok cs) fun cdv A outer s H hcd r c => (b_cons (s_exp (m_callC c ok.k_need_kind (r.mono (by omega)) g.f_need_kind (a_val m_var a_nil))) (b_cons (s_exp (m_callC c ok.k_need_number (r.mono (by omega)) g.f_need_number (a_val m_var (a_val m_int (a_val (m_glb g.w_MOST_LISTED) a_nil))))) (b_cons (s_ret (m_ty (fun _ o => cb_tuple (c.k o) (c.t o)) (os_cons (o_prim (m_bi (fun _ o => cb_sorted (c.k o) (c.t o) c.units) (os_cons (o_pl (m_comp c (own := [("mask", 2)]) (i_seq c (m_callC c ok.k_masks_in (r.mono (by omega)) g.f_masks_in (a_val m_var (a_val m_var a_nil)))) blk_mk (fun _ _ _ _ _ => (g_nm (c.blk))) (fun _ _ _ _ _ => ts_nil) (fun _ _ _ _ _ => (m_callC (c.blk) ok.k_relation_of (r.mono (by omega)) g.f_relation_of (a_val m_var (a_val m_var a_nil)))))) os_nil) g.b_sorted (by decide +kernel))) os_nil) g.b_tuple (by decide +kernel))) b_nil)))
theorem S_need_rows : FnScope N_need_rows p_need_rows (defScope (top 56)) := fs_mk
theorem W_need_rows (g : Gf K mg w base cs) (ok : AllOk P w K mg base cs k (3 * k)) : Ok1 P w K mg base (tbC cs) tab PP (k + 1) (3 * k + 2 + 1) "need_rows" p_need_rows :=
  def_okC (d := D_need_rows) g.u_need_rows S_need_rows (by kernel_rfl) rfl (by decide) rfl (tbC_ok cs) fun cdv A outer s H hcd r c => (b_cons (s_if (eW.eT (w_or (t_not (t_val (m_isi (x := "") m_var c (by decide) g.b_isinstance g.b_tuple (by decide +kernel)))) (w_or (t_not (t_val (m_allS (own := [("row", 2)]) c (gcd_mk g.c_need_rows.1 g.c_need_rows.2.1 (hcd.symm.trans g.c_need_rows.2.2) r) (i_seq c m_var) g.b_all blk_mk (fun _ _ _ _ _ _ _ => (g_nm (c.gen r))) (fun _ _ _ _ _ _ _ => ts_nil) (fun _ _ _ _ _ _ _ => (m_callC (c.gen r) ok.k_is_row ((room_gA r).mono (by omega)) g.f_is_row (a_val m_var (a_val m_var a_nil))))))) (w_or1 (t_not (t_val (m_callC c ok.k_is_rising (r.mono (by omega)) g.f_is_rising (a_val m_var a_nil)))))))) (b_cons s_rais b_nil) b_nil) b_nil)
theorem S_mask_of_rows : FnScope N_mask_of_rows p_mask_of_rows (defScope (top 57)) := fs_mk
theorem W_mask_of_rows (g : Gf K mg w base cs) (ok : AllOk P w K mg base cs k (3 * k)) : Ok1 P w K mg base (tbC cs) tab PP (k + 1) (3 * k + 2 + 1) "mask_of_rows" p_mask_of_rows :=
  def_okC (d := D_mask_of_rows) g.u_mask_of_rows S_mask_of_rows (by kernel_rfl) rfl (by decide) rfl (tbC_ok cs) fun cdv A outer s H hcd r c => (b_cons (s_ret (m_sumS (own := [("row", 1)]) c (gcd_mk g.c_mask_of_rows.1 g.c_mask_of_rows.2.1 (hcd.symm.trans g.c_mask_of_rows.2.2) r) (i_seq c m_var) g.b_sum blk_mk (fun _ _ _ _ _ _ _ => (g_nm (c.gen r))) (fun _ _ _ _ _ _ _ => ts_nil) (fun _ _ _ _ _ _ _ => (m_op (fun _ _ => dr_shl) o_int (o_pl (m_callC (c.gen r) ok.k_code_of ((room_gA r).mono (by omega)) g.f_code_of (a_val m_var a_nil))))))) b_nil)
theorem S_least_for : FnScope N_least_for p_least_for (defScope (top 58)) := fs_mk
theorem W_least_for (g : Gf K mg w base cs) (ok : AllOk P w K mg base cs k (3 * k)) : Ok1 P w K mg base (tbC cs) tab PP (k + 1) (3 * k + 2 + 1) "least_for" p_least_for :=
  def_okC (d := D_least_for) g.u_least_for S_least_for (by kernel_rfl) rfl (by decide) rfl (tbC_ok cs) fun cdv A outer s H hcd r c => (b_cons (s_ret (m_callC c ok.k_least_mask (r.mono (by omega)) g.f_least_mask (a_val (m_callC c ok.k_plain_masks (r.mono (by omega)) g.f_plain_masks (a_val m_var (a_val m_var a_nil))) (a_val m_var (a_val (m_callC c ok.k_mask_of_rows (r.mono (by omega)) g.f_mask_of_rows (a_val m_var a_nil)) a_nil))))) b_nil)
theorem S_fitted : FnScope N_fitted p_fitted (defScope (top 59)) := fs_mk
theorem W_fitted (g : Gf K mg w base cs) (ok : AllOk P w K mg base cs k (3 * k)) : Ok1 P w K mg base (tbC cs) tab PP (k + 1) (3 * k + 2 + 1) "fitted" p_fitted :=
  def_okC (d := D_fitted) g.u_fitted S_fitted (by kernel_rfl) rfl (by decide) rfl (tbC_ok cs) fun cdv A outer s H hcd r c => (b_cons (s_exp (m_callC c ok.k_need_kind (r.mono (by omega)) g.f_need_kind (a_val m_var a_nil))) (b_cons (s_exp (m_callC c ok.k_need_number (r.mono (by omega)) g.f_need_number (a_val m_var (a_val m_int (a_val (m_glb g.w_MOST_PLACES) a_nil))))) (b_cons (s_exp (m_callC c ok.k_need_rows (r.mono (by omega)) g.f_need_rows (a_val m_var (a_val m_var a_nil)))) (b_cons (s_exp (m_callC c ok.k_need_rows (r.mono (by omega)) g.f_need_rows (a_val m_var (a_val m_var a_nil)))) (b_cons (s_set c (m_callC c ok.k_least_for (r.mono (by omega)) g.f_least_for (a_val m_var (a_val m_var (a_val m_var a_nil))))) (b_cons (s_setLc c (own := [("row", 6)]) (i_seq c m_var) blk_mk (fun _ _ _ _ _ => (g_nm (c.blk))) (fun _ _ _ _ _ => (ts_one (t_cmp (fun _ o => dr_eq ((c.blk).k o) (c.blk).units) (o_prim (m_op (fun _ _ => dr_band) (o_prim (m_op (fun _ _ => dr_shr) o_var (o_pl (m_callC (c.blk) ok.k_code_of (r.mono (by omega)) g.f_code_of (a_val m_var a_nil))))) o_int)) o_int))) (fun _ _ _ _ _ => (m_callC (c.blk) ok.k_code_of (r.mono (by omega)) g.f_code_of (a_val m_var a_nil))) (by kernel_rfl)) (b_cons (s_ret (m_ife (t_cmp (fun _ o => dr_eq (c.k o) c.units) o_var (o_pl (m_lst c ms_nil))) (m_tup c (ms_cons m_str (ms_cons (m_callC c ok.k_relation_of (r.mono (by omega)) g.f_relation_of (a_val m_var (a_val m_var a_nil))) ms_nil))) (m_tup c (ms_cons m_str (ms_cons (m_callC c ok.k_row_of (r.mono (by omega)) g.f_row_of (a_val (m_ix c o_var o_int) (a_val m_var a_nil))) ms_nil))))) b_nil)))))))
theorem S__law_pot : FnScope N__law_pot p__law_pot (defScope (top 61)) := fs_mk
theorem W__law_pot (g : Gf K mg w base cs) (ok : AllOk P w K mg base cs k (3 * k)) : Ok1 P w K mg base (tbC cs) tab PP (k + 1) (3 * k + 2 + 1) "_law_pot" p__law_pot :=
  def_okC (d := D__law_pot) g.u__law_pot S__law_pot (by kernel_rfl) rfl (by decide) rfl (tbC_ok cs) fun cdv A outer s H hcd r c => (b_cons (s_set c (m_ife (t_cmp (fun _ o => dr_lt (c.k o) c.units) o_var (o_prim (m_bi (fun _ o => cb_len (c.k o)) (os_cons o_var os_nil) g.b_len (by decide +kernel)))) (m_ix c o_var o_var) (m_op (fun _ o => dr_add (c.k o) (c.t o)) (o_prim (m_op (fun _ _ => dr_mul) o_int (o_prim (m_bi (fun _ o => cb_sum (c.k o) c.calm) (os_cons (o_prim (m_sl01 c o_var o_int)) os_nil) g.b_sum (by decide +kernel))))) (o_prim (m_op (fun _ _ => dr_mul) o_int (o_prim (m_op (fun _ o => dr_add (c.k o) (c.t o)) o_var o_int))))))) (b_cons (s_if (t_cmp (fun _ o => dr_ge (c.k o) c.units) o_var (o_prim (m_op (fun _ _ => dr_pow) o_int o_int))) (b_cons (s_ret (m_lst c (ms_cons (m_op (fun _ _ => dr_sub) o_var (o_prim (m_op (fun _ _ => dr_pow) o_int o_int))) (ms_cons m_int (ms_cons m_int ms_nil))))) b_nil) b_nil) (b_cons (s_ret (m_lst c (ms_cons m_int (ms_cons (m_op (fun _ _ => dr_mod) (o_prim (m_ty (fun _ _ => cb_int) (os_cons (o_prim (m_op (fun _ o => dr_add (c.k o) (c.t o)) (o_prim (m_op (fun _ _ => dr_mul) o_var o_int)) (o_prim (m_op (fun _ _ => dr_mul) o_int o_var)))) os_nil) g.b_int (by decide +kernel))) (o_prim (m_op (fun _ o => dr_add (c.k o) (c.t o)) (o_prim (m_op (fun _ _ => dr_pow) o_int o_int)) o_int))) (ms_cons m_int ms_nil))))) b_nil)))
theorem S__law_draw : FnScope N__law_draw p__law_draw (defScope (top 62)) := fs_mk
theorem W__law_draw (g : Gf K mg w base cs) (ok : AllOk P w K mg base cs k (3 * k)) : Ok1 P w K mg base (tbC cs) tab PP (k + 1) (3 * k + 2 + 1) "_law_draw" p__law_draw :=
  def_okC (d := D__law_draw) g.u__law_draw S__law_draw (by kernel_rfl) rfl (by decide) rfl (tbC_ok cs) fun cdv A outer s H hcd r c => (b_cons (s_if (t_cmp (fun _ o => dr_gt (c.k o) c.units) (o_prim (m_ix c o_var o_int)) o_int) (b_cons (s_set c (m_op (fun _ _ => dr_mod) (o_prim (m_ty (fun _ _ => cb_int) (os_cons (o_prim (m_ix c o_var o_int)) os_nil) g.b_int (by decide +kernel))) o_var)) (b_cons (s_put c (m_op (fun _ _ => dr_fdiv) (o_prim (m_ix c o_var o_int)) o_var) m_int) (b_cons s_retV b_nil))) b_nil) (b_cons (s_put c (m_op (fun _ o => dr_add (c.k o) (c.t o)) (o_prim (m_ix c o_var o_int)) o_int) m_int) (b_cons (s_set c (m_op (fun _ o => dr_add (c.k o) (c.t o)) (o_prim (m_op (fun _ _ => dr_mul) o_int (o_prim (m_ix c o_var o_int)))) (o_prim (m_op (fun _ _ => dr_mul) o_int (o_prim (m_ix c o_var o_int)))))) (b_cons (s_set c (m_op (fun _ _ => dr_mod) (o_prim (m_ty (fun _ _ => cb_int) (os_cons (o_prim (m_op (fun _ o => dr_add (c.k o) (c.t o)) (o_prim (m_op (fun _ _ => dr_mul) (o_prim (m_op (fun _ _ => dr_mul) o_var o_var)) o_var)) (o_prim (m_op (fun _ _ => dr_mul) o_int (o_prim (m_ix c o_var o_int)))))) os_nil) g.b_int (by decide +kernel))) (o_prim (m_op (fun _ o => dr_add (c.k o) (c.t o)) (o_prim (m_op (fun _ _ => dr_pow) o_int o_int)) o_int)))) (b_cons (s_set c (m_op (fun _ _ => dr_mod) (o_prim (m_ty (fun _ _ => cb_int) (os_cons (o_prim (m_op (fun _ o => dr_add (c.k o) (c.t o)) (o_prim (m_op (fun _ _ => dr_mul) o_var o_var)) o_int)) os_nil) g.b_int (by decide +kernel))) (o_prim (m_op (fun _ o => dr_add (c.k o) (c.t o)) (o_prim (m_op (fun _ _ => dr_pow) o_int o_int)) o_int)))) (b_cons (s_ret (m_op (fun _ _ => dr_mod) (o_prim (m_ty (fun _ _ => cb_int) (os_cons (o_prim (m_op (fun _ _ => dr_fdiv) o_var (o_prim (m_op (fun _ _ => dr_pow) o_int o_int)))) os_nil) g.b_int (by decide +kernel))) o_var)) b_nil))))))
theorem S__law_rows : FnScope N__law_rows p__law_rows (defScope (top 63)) := fs_mk
theorem W__law_rows (g : Gf K mg w base cs) (ok : AllOk P w K mg base cs k (3 * k)) : Ok1 P w K mg base (tbC cs) tab PP (k + 1) (3 * k + 2 + 1) "_law_rows" p__law_rows :=
  def_okC (d := D__law_rows) g.u__law_rows S__law_rows (by kernel_rfl) rfl (by decide) rfl (tbC_ok cs) fun cdv A outer s H hcd r c => (b_cons (s_set c (m_lst c (ms_cons (m_tup c ms_nil) ms_nil))) (b_cons (s_for c (i_rng1 m_var g.b_range) (g_nm c) (b_cons (s_set c (m_op (fun _ o => dr_add (c.k o) (c.t o)) (o_pl (m_comp c (own := [("row", 3)]) (i_seq c m_var) blk_mk (fun _ _ _ _ _ => (g_nm (c.blk))) (fun _ _ _ _ _ => ts_nil) (fun _ _ _ _ _ => (m_op (fun _ o => dr_add ((c.blk).k o) (c.t o)) o_var (o_pl (m_tup (c.blk) (ms_cons m_int ms_nil))))))) (o_pl (m_comp c (own := [("row", 3)]) (i_seq c m_var) blk_mk (fun _ _ _ _ _ => (g_nm (c.blk))) (fun _ _ _ _ _ => ts_nil) (fun _ _ _ _ _ => (m_op (fun _ o => dr_add ((c.blk).k o) (c.t o)) o_var (o_pl (m_tup (c.blk) (ms_cons m_int ms_nil))))))))) b_nil)) (b_cons (s_ret (m_bi (fun _ o => cb_sorted (c.k o) (c.t o) c.units) (os_cons o_var os_nil) g.b_sorted (by decide +kernel))) b_nil)))
theorem S__law_kinds : FnScope N__law_kinds p__law_kinds (defScope (top 64)) := fs_mk
theorem W__law_kinds (g : Gf K mg w base cs) (ok : AllOk P w K mg base cs k (3 * k)) : Ok1 P w K mg base (tbC cs) tab PP (k + 1) (3 * k + 2 + 1) "_law_kinds" p__law_kinds :=
  def_okC (d := D__law_kinds) g.u__law_kinds S__law_kinds (by kernel_rfl) rfl (by decide) rfl (tbC_ok cs) fun cdv A outer s H hcd r c => (b_cons (s_set c (m_lst c (ms_cons m_str (ms_cons m_str (ms_cons m_str (ms_cons m_str (ms_cons m_str (ms_cons m_str (ms_cons m_str (ms_cons m_str ms_nil)))))))))) (b_cons (s_for c (i_seq c (m_tup c (ms_cons m_str (ms_cons m_str (ms_cons m_str ms_nil))))) (g_nm c) (b_cons (s_set c (m_op (fun _ o => dr_add (c.k o) (c.t o)) o_var (o_pl (m_lst c (ms_cons (m_op (fun _ o => dr_add (c.k o) (c.t o)) o_str o_var) (ms_cons (m_op (fun _ o => dr_add (c.k o) (c.t o)) (o_prim (m_op (fun _ o => dr_add (c.k o) (c.t o)) o_str o_var)) o_str) (ms_cons (m_op (fun _ o => dr_add (c.k o) (c.t o)) o_str o_var) (ms_cons (m_op (fun _ o => dr_add (c.k o) (c.t o)) (o_prim (m_op (fun _ o => dr_add (c.k o) (c.t o)) o_str o_var)) o_str) ms_nil)))))))) b_nil)) (b_cons (s_ret (m_bi (fun _ o => cb_sorted (c.k o) (c.t o) c.units) (os_cons o_var os_nil) g.b_sorted (by decide +kernel))) b_nil)))
theorem S__law_clause_masks : FnScope N__law_clause_masks p__law_clause_masks (defScope (top 65)) := fs_mk
theorem W__law_clause_masks (g : Gf K mg w base cs) (ok : AllOk P w K mg base cs k (3 * k)) : Ok1 P w K mg base (tbC cs) tab PP (k + 1) (3 * k + 2 + 1) "_law_clause_masks" p__law_clause_masks :=
  def_okC (d := D__law_clause_masks) g.u__law_clause_masks S__law_clause_masks (by kernel_rfl) rfl (by decide) rfl (tbC_ok cs) fun cdv A outer s H hcd r c => (b_cons (s_par c (m_callC c ok.k__law_rows (r.mono (by omega)) g.f__law_rows (a_val m_var a_nil)) (m_lst c (ms_cons (m_tup c (ms_cons m_int (ms_cons m_int (ms_cons m_int ms_nil)))) ms_nil))) (b_cons (s_for c (i_rng1 m_var g.b_range) (g_nm c) (b_cons (s_set c (m_bi (fun _ o => cb_sum (c.k o) c.calm) (os_cons (o_pl (m_comp c (own := [("at", 10), ("row", 11)]) (i_enum c m_var g.b_enumerate) blk_mk (fun _ _ _ _ _ => (g_tp (c.blk) (pgs_cons' (c.blk) (pgs_cons' (c.blk) pgs_nil)) rfl)) (fun _ _ _ _ _ => (ts_one (t_cmp (fun _ o => dr_eq ((c.blk).k o) (c.blk).units) (o_prim (m_ix (c.blk) o_var o_var)) o_int))) (fun _ _ _ _ _ => (m_op (fun _ _ => dr_shl) o_int o_var)))) os_nil) g.b_sum (by decide +kernel))) (b_cons (s_set c (m_bi (fun _ o => cb_sum (c.k o) c.calm) (os_cons (o_pl (m_comp c (own := [("at", 10), ("row", 11)]) (i_enum c m_var g.b_enumerate) blk_mk (fun _ _ _ _ _ => (g_tp (c.blk) (pgs_cons' (c.blk) (pgs_cons' (c.blk) pgs_nil)) rfl)) (fun _ _ _ _ _ => (ts_one (t_cmp (fun _ o => dr_eq ((c.blk).k o) (c.blk).units) (o_prim (m_ix (c.blk) o_var o_var)) o_int))) (fun _ _ _ _ _ => (m_op (fun _ _ => dr_shl) o_int o_var)))) os_nil) g.b_sum (by decide +kernel))) (b_cons (s_setLc c (own := [("many", 7), ("few", 8), ("mask", 9)]) (i_seq c m_var) blk_mk (fun _ _ _ _ _ => (g_tp (c.blk) (pgs_cons' (c.blk) (pgs_cons' (c.blk) (pgs_cons' (c.blk) pgs_nil))) rfl)) (fun _ _ _ _ _ => ts_nil) (fun _ _ _ _ _ => (m_tup (c.blk) (ms_cons (m_op (fun _ o => dr_add ((c.blk).k o) (c.t o)) o_var o_int) (ms_cons m_var (ms_cons (m_op (fun _ _ => dr_bor) o_var o_var) ms_nil))))) (by kernel_rfl)) (b_cons (s_set c (m_op (fun _ o => dr_add (c.k o) (c.t o)) (o_prim (m_op (fun _ o => dr_add (c.k o) (c.t o)) o_var o_var)) (o_pl (m_comp c (own := [("many", 7), ("few", 8), ("mask", 9)]) (i_seq c m_var) blk_mk (fun _ _ _ _ _ => (g_tp (c.blk) (pgs_cons' (c.blk) (pgs_cons' (c.blk) (pgs_cons' (c.blk) pgs_nil))) rfl)) (fun _ _ _ _ _ => ts_nil) (fun _ _ _ _ _ => (m_tup (c.blk) (ms_cons (m_op (fun _ o => dr_add ((c.blk).k o) (c.t o)) o_var o_int) (ms_cons (m_op (fun _ o => dr_add ((c.blk).k o) (c.t o)) o_var o_int) (ms_cons (m_op (fun _ _ => dr_bor) o_var o_var) ms_nil))))))))) b_nil))))) (b_cons s_retV b_nil)))
theorem S__law_sum_masks : FnScope N__law_sum_masks p__law_sum_masks (defScope (top 66)) := fs_mk
theorem W__law_sum_masks (g : Gf K mg w base cs) (ok : AllOk P w K mg base cs k (3 * k)) : Ok1 P w K mg base (tbC cs) tab PP (k + 1) (3 * k + 2 + 1) "_law_sum_masks" p__law_sum_masks :=
  def_okC (d := D__law_sum_masks) g.u__law_sum_masks S__law_sum_masks (by kernel_rfl) rfl (by decide) rfl (tbC_ok cs) fun cdv A outer s H hcd r c => (b_cons (s_par c (m_callC c ok.k__law_rows (r.mono (by omega)) g.f__law_rows (a_val m_var a_nil)) (m_lst c (ms_cons (m_tup c (ms_cons m_int (ms_cons m_int ms_nil))) ms_nil))) (b_cons (s_for c (i_rng1 m_var g.b_range) (g_nm c) (b_cons (s_set c (m_bi (fun _ o => cb_sum (c.k o) c.calm) (os_cons (o_pl (m_comp c (own := [("at", 5), ("row", 6)]) (i_enum c m_var g.b_enumerate) blk_mk (fun _ _ _ _ _ => (g_tp (c.blk) (pgs_cons' (c.blk) (pgs_cons' (c.blk) pgs_nil)) rfl)) (fun _ _ _ _ _ => (ts_one (t_cmp (fun _ o => dr_eq ((c.blk).k o) (c.blk).units) (o_prim (m_ix (c.blk) o_var o_var)) o_int))) (fun _ _ _ _ _ => (m_op (fun _ _ => dr_shl) o_int o_var)))) os_nil) g.b_sum (by decide +kernel))) (b_cons (s_set c (m_op (fun _ o => dr_add (c.k o) (c.t o)) o_var (o_pl (m_comp c (own := [("many", 7), ("odd", 8)]) (i_seq c m_var) blk_mk (fun _ _ _ _ _ => (g_tp (c.blk) (pgs_cons' (c.blk) (pgs_cons' (c.blk) pgs_nil)) rfl)) (fun _ _ _ _ _ => ts_nil) (fun _ _ _ _ _ => (m_tup (c.blk) (ms_cons (m_op (fun _ o => dr_add ((c.blk).k o) (c.t o)) o_var o_int) (ms_cons (m_op (fun _ _ => dr_bxor) o_var o_var) ms_nil)))))))) b_nil))) (b_cons s_retV b_nil)))
theorem S__law_has_clause : FnScope N__law_has_clause p__law_has_clause (defScope (top 67)) := fs_mk
theorem W__law_has_clause (g : Gf K mg w base cs) (ok : AllOk P w K mg base cs k (3 * k)) : Ok1 P w K mg base (tbC cs) tab PP (k + 1) (3 * k + 2 + 1) "_law_has_clause" p__law_has_clause :=
  def_okC (d := D__law_has_clause) g.u__law_has_clause S__law_has_clause (by kernel_rfl) rfl (by decide) rfl (tbC_ok cs) fun cdv A outer s H hcd r c => (b_cons (s_if (eW.eT (w_or (t_cmp (fun _ o => dr_lt (c.k o) c.units) o_var o_int) (w_or1 (t_cmp (fun _ o => dr_eq (c.k o) c.units) o_var o_str)))) (b_cons (s_ret m_bl) b_nil) b_nil) (b_cons (s_if (t_cmp (fun _ o => dr_eq (c.k o) c.units) o_var o_str) (b_cons (s_ret (m_cmp (fun _ o => dr_eq (c.k o) c.units) o_var o_int)) b_nil) b_nil) (b_cons (s_if (t_cmp (fun _ o => dr_eq (c.k o) c.units) o_var o_str) (b_cons (s_ret (m_cmp (fun _ o => dr_lt (c.k o) c.units) o_var o_int)) b_nil) b_nil) (b_cons (s_if (t_cmp (fun _ o => dr_eq (c.k o) c.units) o_var o_str) (b_cons (s_ret (m_cmp (fun _ o => dr_lt (c.k o) c.units) (o_prim (m_op (fun _ _ => dr_sub) o_var o_var)) o_int)) b_nil) b_nil) (b_cons (s_if (t_chain (fun _ o => dr_lt (c.k o) c.units) (fun _ o => dr_lt (c.k o) c.units) o_int o_var o_var) (b_cons (s_ret (m_and (m_cmp (fun _ o => dr_eq (c.k o) c.units) o_var o_int) (m_last (m_cmp (fun _ o => dr_eq (c.k o) c.units) (o_prim (m_sl10 c o_var (o_prim (m_un (fun _ _ => dr_neg) o_int)))) o_str)))) b_nil) b_nil) (b_cons (s_if (t_cmp (fun _ o => dr_eq (c.k o) c.units) o_var o_int) (b_cons (s_ret (m_and (m_cmp (fun _ o => dr_eq (c.k o) c.units) (o_prim (m_sl01 c o_var o_int)) o_str) (m_more (m_and (m_cmp (fun _ o => dr_ne (c.k o) c.units) o_var o_str) (m_last (m_cmp (fun _ o => dr_le (c.k o) c.units) o_var (o_prim (m_ty (fun _ _ => cb_int) (os_cons (o_prim (m_ix c o_var o_int)) os_nil) g.b_int (by decide +kernel))))))))) b_nil) b_nil) (b_cons (s_ret (m_and (m_cmp (fun _ o => dr_eq (c.k o) c.units) (o_prim (m_sl01 c o_var o_int)) o_str) (m_last (m_cmp (fun _ o => dr_le (c.k o) c.units) o_var (o_prim (m_ty (fun _ _ => cb_int) (os_cons (o_prim (m_ix c o_var o_int)) os_nil) g.b_int (by decide +kernel))))))) b_nil)))))))
theorem S__law_kind_masks : FnScope N__law_kind_masks p__law_kind_masks (defScope (top 68)) := fs_mk
theorem W__law_kind_masks (g : Gf K mg w base cs) (ok : AllOk P w K mg base cs k (3 * k)) : Ok1 P w K mg base (tbC cs) tab PP (k + 1) (3 * k + 2 + 1) "_law_kind_masks" p__law_kind_masks :=
  def_okC (d := D__law_kind_masks) g.u__law_kind_masks S__law_kind_masks (by kernel_rfl) rfl (by decide) rfl (tbC_ok cs) fun cdv A outer s H hcd r c => (b_cons (s_par c (m_op (fun _ _ => dr_sub) (o_prim (m_op (fun _ _ => dr_shl) o_int (o_prim (m_op (fun _ _ => dr_shl) o_int o_var)))) o_int) (m_lst c ms_nil)) (b_cons (s_for c (i_seq c (m_callC c ok.k__law_clause_masks (r.mono (by omega)) g.f__law_clause_masks (a_val m_var a_nil))) (g_tp c (pgs_cons' c (pgs_cons' c (pgs_cons' c pgs_nil))) rfl) (b_cons (s_if (t_val (m_callC c ok.k__law_has_clause (r.mono (by omega)) g.f__law_has_clause (a_val m_var (a_val m_var (a_val m_var a_nil))))) (b_cons (s_app c m_var) b_nil) b_nil) b_nil)) (b_cons (s_for c (i_seq c (m_callC c ok.k__law_sum_masks (r.mono (by omega)) g.f__law_sum_masks (a_val m_var a_nil))) (g_tp c (pgs_cons' c (pgs_cons' c pgs_nil)) rfl) (b_cons (s_if (eW.eT (w_or (t_cmp (fun _ o => dr_eq (c.k o) c.units) o_var o_str) (w_or1 (t_cmp (fun _ o => dr_eq (c.k o) c.units) o_var o_int)))) (b_cons (s_app c (m_op (fun _ _ => dr_bxor) o_var o_var)) b_nil) b_nil) (b_cons (s_if (eW.eT (w_or (t_cmp (fun _ o => dr_eq (c.k o) c.units) o_var o_str) (w_or1 (eW.eT (w_and (t_cmp (fun _ o => dr_eq (c.k o) c.units) o_var o_int) (w_and1 (t_cmp (fun _ o => dr_in (c.k o) c.units) o_var (o_pl (m_tup c (ms_cons m_str (ms_cons m_str ms_nil))))))))))) (b_cons (s_app c m_var) b_nil) b_nil) b_nil))) (b_cons s_retV b_nil))))
theorem S__law_unbits : FnScope N__law_unbits p__law_unbits (defScope (top 69)) := fs_mk
theorem W__law_unbits (g : Gf K mg w base cs) (ok : AllOk P w K mg base cs k (3 * k)) : Ok1 P w K mg base (tbC cs) tab PP (k + 1) (3 * k + 2 + 1) "_law_unbits" p__law_unbits :=
  def_okC (d := D__law_unbits) g.u__law_unbits S__law_unbits (by kernel_rfl) rfl (by decide) rfl (tbC_ok cs) fun cdv A outer s H hcd r c => (b_cons (s_ret (m_tup c (ms_cons m_var (ms_cons (m_ty (fun _ o => cb_tuple (c.k o) (c.t o)) (os_cons (o_pl (m_comp c (own := [("at", 2), ("row", 3)]) (i_enum c (m_callC c ok.k__law_rows (r.mono (by omega)) g.f__law_rows (a_val m_var a_nil)) g.b_enumerate) blk_mk (fun _ _ _ _ _ => (g_tp (c.blk) (pgs_cons' (c.blk) (pgs_cons' (c.blk) pgs_nil)) rfl)) (fun _ _ _ _ _ => (ts_one (t_cmp (fun _ o => dr_eq ((c.blk).k o) (c.blk).units) (o_prim (m_op (fun _ _ => dr_band) (o_prim (m_op (fun _ _ => dr_shr) o_var o_var)) o_int)) o_int))) (fun _ _ _ _ _ => m_var))) os_nil) g.b_tuple (by decide +kernel)) ms_nil)))) b_nil)
theorem S__law_features : FnScope N__law_features p__law_features (defScope (top 70)) := fs_mk
theorem W__law_features (g : Gf K mg w base cs) (ok : AllOk P w K mg base cs k (3 * k)) : Ok1 P w K mg base (tbC cs) tab PP (k + 1) (3 * k + 2 + 1) "_law_features" p__law_features :=
  def_okC (d := D__law_features) g.u__law_features S__law_features (by kernel_rfl) rfl (by decide) rfl (tbC_ok cs) fun cdv A outer s H hcd r c => (b_cons (s_tup (m_tup c (ms_cons m_int (ms_cons m_int ms_nil))) (g_tp c (pgs_cons' c (pgs_cons' c pgs_nil)) rfl)) (b_cons (s_if (t_cmp (fun _ o => dr_in (c.k o) c.units) o_var (o_pl (m_tup c (ms_cons m_str (ms_cons m_str (ms_cons m_str ms_nil)))))) (b_cons (s_set c (m_ife (t_cmp (fun _ o => dr_eq (c.k o) c.units) o_var o_str) m_int m_int)) b_nil) (b_cons (s_if (eW.eT (w_and (t_cmp (fun _ o => dr_eq (c.k o) c.units) (o_prim (m_sl01 c o_var o_int)) o_str) (w_and1 (t_cmp (fun _ o => dr_ne (c.k o) c.units) o_var o_str)))) (b_cons (s_set c (m_ty (fun _ _ => cb_int) (os_cons (o_prim (m_ix c o_var o_int)) os_nil) g.b_int (by decide +kernel))) b_nil) b_nil) b_nil)) (b_cons (s_if (t_cmp (fun _ o => dr_in (c.k o) c.units) o_var (o_pl (m_tup c (ms_cons m_str (ms_cons m_str (ms_cons m_str ms_nil)))))) (b_cons (s_set c (m_ife (t_cmp (fun _ o => dr_eq (c.k o) c.units) o_var o_str) m_int m_int)) b_nil) (b_cons (s_if (t_cmp (fun _ o => dr_eq (c.k o) c.units) (o_prim (m_sl01 c o_var o_int)) o_str) (b_cons (s_set c (m_ty (fun _ _ => cb_int) (os_cons (o_prim (m_ix c o_var o_int)) os_nil) g.b_int (by decide +kernel))) b_nil) b_nil) b_nil)) (b_cons (s_set c (m_ife (eW.eT (w_or (t_cmp (fun _ o => dr_eq (c.k o) c.units) (o_prim (m_sl10 c o_var (o_prim (m_un (fun _ _ => dr_neg) o_int)))) o_str) (w_or1 (t_cmp (fun _ o => dr_in (c.k o) c.units) o_var (o_pl (m_tup c (ms_cons m_str (ms_cons m_str (ms_cons m_str (ms_cons m_str ms_nil)))))))))) m_int m_int)) (b_cons (s_set c (m_ife (t_cmp (fun _ o => dr_in (c.k o) c.units) o_var (o_pl (m_tup c (ms_cons m_str (ms_cons m_str (ms_cons m_str (ms_cons m_str ms_nil))))))) m_int m_int)) (b_cons (s_ret (m_op (fun _ o => dr_add (c.k o) (c.t o)) (o_pl (m_lst c (ms_cons m_var (ms_cons m_var (ms_cons m_var (ms_cons m_var ms_nil)))))) (o_pl (m_comp c (own := [("word", 5)]) (i_seq c (m_tup c (ms_cons m_str (ms_cons m_str (ms_cons m_str ms_nil))))) blk_mk (fun _ _ _ _ _ => (g_nm (c.blk))) (fun _ _ _ _ _ => ts_nil) (fun _ _ _ _ _ => (m_ife (t_cmp (fun _ o => dr_in ((c.blk).k o) (c.blk).units) o_var (o_pl (m_tup (c.blk) (ms_cons m_var (ms_cons m_str ms_nil))))) m_int m_int)))))) b_nil))))))
theorem S__law_lies : FnScope N__law_lies p__law_lies (defScope (top 71)) := fs_mk
theorem W__law_lies (g : Gf K mg w base cs) (ok : AllOk P w K mg base cs k (3 * k)) : Ok1 P w K mg base (tbC cs) tab PP (k + 1) (3 * k + 2 + 1) "_law_lies" p__law_lies :=
  def_okC (d := D__law_lies) g.u__law_lies S__law_lies (by kernel_rfl) rfl (by decide) rfl (tbC_ok cs) fun cdv A outer s H hcd r c => (b_cons (s_ret (m_cmp (fun _ o => dr_eq (c.k o) c.units) (o_pl (m_comp c (own := [("one", 2), ("two", 3)]) (i_zip c (m_callC c ok.k__law_features (r.mono (by omega)) g.f__law_features (a_val m_var a_nil)) (m_callC c ok.k__law_features (r.mono (by omega)) g.f__law_features (a_val m_var a_nil)) g.b_zip) blk_mk (fun _ _ _ _ _ => (g_tp (c.blk) (pgs_cons' (c.blk) (pgs_cons' (c.blk) pgs_nil)) rfl)) (fun _ _ _ _ _ => (ts_one (t_cmp (fun _ o => dr_gt ((c.blk).k o) (c.blk).units) o_var o_var))) (fun _ _ _ _ _ => m_int))) (o_pl (m_lst c ms_nil)))) b_nil)
theorem S__law_all_bits : FnScope N__law_all_bits p__law_all_bits (defScope (top 72)) := fs_mk
theorem W__law_all_bits (g : Gf K mg w base cs) (ok : AllOk P w K mg base cs k (3 * k)) : Ok1 P w K mg base (tbC cs) tab PP (k + 1) (3 * k + 2 + 1) "_law_all_bits" p__law_all_bits :=
  def_okC (d := D__law_all_bits) g.u__law_all_bits S__law_all_bits (by kernel_rfl) rfl (by decide) rfl (tbC_ok cs) fun cdv A outer s H hcd r c => (b_cons (s_set c (m_lst c (ms_cons (m_op (fun _ _ => dr_sub) (o_prim (m_op (fun _ _ => dr_shl) o_int (o_prim (m_op (fun _ _ => dr_shl) o_int o_var)))) o_int) ms_nil))) (b_cons (s_for c (i_seq c (m_callC c ok.k__law_kind_masks (r.mono (by omega)) g.f__law_kind_masks (a_val m_var (a_val m_var a_nil)))) (g_nm c) (b_cons (s_set c (m_sset c (os_cons (o_prim (m_op (fun _ o => dr_add (c.k o) (c.t o)) o_var (o_pl (m_comp c (own := [("bits", 4)]) (i_seq c m_var) blk_mk (fun _ _ _ _ _ => (g_nm (c.blk))) (fun _ _ _ _ _ => ts_nil) (fun _ _ _ _ _ => (m_op (fun _ _ => dr_band) o_var o_var)))))) os_nil) g.b_sorted g.b_set)) b_nil)) (b_cons s_retV b_nil)))
theorem S__law_relations : FnScope N__law_relations p__law_relations (defScope (top 73)) := fs_mk
theorem W__law_relations (g : Gf K mg w base cs) (ok : AllOk P w K mg base cs k (3 * k)) : Ok1 P w K mg base (tbC cs) tab PP (k + 1) (3 * k + 2 + 1) "_law_relations" p__law_relations :=
  def_okC (d := D__law_relations) g.u__law_relations S__law_relations (by kernel_rfl) rfl (by decide) rfl (tbC_ok cs) fun cdv A outer s H hcd r c => (b_cons (s_ret (m_ty (fun _ o => cb_tuple (c.k o) (c.t o)) (os_cons (o_prim (m_bi (fun _ o => cb_sorted (c.k o) (c.t o) c.units) (os_cons (o_pl (m_comp c (own := [("bits", 2)]) (i_seq c (m_callC c ok.k__law_all_bits (r.mono (by omega)) g.f__law_all_bits (a_val m_var (a_val m_var a_nil)))) blk_mk (fun _ _ _ _ _ => (g_nm (c.blk))) (fun _ _ _ _ _ => ts_nil) (fun _ _ _ _ _ => (m_callC (c.blk) ok.k__law_unbits (r.mono (by omega)) g.f__law_unbits (a_val m_var (a_val m_var a_nil)))))) os_nil) g.b_sorted (by decide +kernel))) os_nil) g.b_tuple (by decide +kernel))) b_nil)
theorem S__law_list_right : FnScope N__law_list_right p__law_list_right (defScope (top 74)) := fs_mk
theorem W__law_list_right (g : Gf K mg w base cs) (ok : AllOk P w K mg base cs k (3 * k)) : Ok1 P w K mg base (tbC cs) tab PP (k + 1) (3 * k + 2 + 1) "_law_list_right" p__law_list_right :=
  def_okC (d := D__law_list_right) g.u__law_list_right S__law_list_right (by kernel_rfl) rfl (by decide) rfl (tbC_ok cs) fun cdv A outer s H hcd r c => (b_cons (s_set c (m_callC c ok.k__law_relations (r.mono (by omega)) g.f__law_relations (a_val m_var (a_val m_var a_nil)))) (b_cons (s_if (eW.eT (w_or (t_cmp (fun _ o => dr_ne (c.k o) c.units) (o_prim (m_bi (fun _ o => cb_repr (c.k o) c.units c.guards) (os_cons (o_pl (m_lst c (ms_cons (m_callC c ok.k_all_in (r.mono (by omega)) g.f_all_in (a_val m_var (a_val m_var a_nil))) (ms_cons (m_callCK0 c ok.k_all_in (r.mono (by omega)) g.f_all_in (kb_all_in_0_places_kind g) (k_val m_var (k_val m_var k_nil))) ms_nil)))) os_nil) g.b_repr (by decide +kernel))) (o_prim (m_bi (fun _ o => cb_repr (c.k o) c.units c.guards) (os_cons (o_pl (m_lst c (ms_cons m_var (ms_cons m_var ms_nil)))) os_nil) g.b_repr (by decide +kernel)))) (w_or1 (t_cmp (fun _ o => dr_ne (c.k o) c.units) (o_prim (m_bi (fun _ o => cb_len (c.k o)) (os_cons o_var os_nil) g.b_len (by decide +kernel))) o_var)))) (b_cons (s_ret m_bl) b_nil) b_nil) (b_cons (s_for c (i_rng1 (m_op (fun _ _ => dr_shl) o_int (o_prim (m_op (fun _ _ => dr_shl) o_int o_var))) g.b_range) (g_nm c) (b_cons (s_set c (m_callC c ok.k__law_unbits (r.mono (by omega)) g.f__law_unbits (a_val m_var (a_val m_var a_nil)))) (b_cons (s_if (t_cmp (fun _ o => dr_ne (c.k o) c.units) (o_prim (m_bi (fun _ o => cb_repr (c.k o) c.units c.guards) (os_cons (o_pl (m_callC c ok.k_is_in (r.mono (by omega)) g.f_is_in (a_val m_var (a_val m_var a_nil)))) os_nil) g.b_repr (by decide +kernel))) (o_prim (m_bi (fun _ o => cb_repr (c.k o) c.units c.guards) (os_cons (o_prim (m_cmp (fun _ o => dr_in (c.k o) c.units) o_var o_var)) os_nil) g.b_repr (by decide +kernel)))) (b_cons (s_ret m_bl) b_nil) b_nil) (b_cons (s_if (t_cmp (fun _ o => dr_ne (c.k o) c.units) (o_prim (m_cmp (fun _ o => dr_eq (c.k o) c.units) (o_prim (m_bi (fun _ o => cb_repr (c.k o) c.units c.guards) (os_cons (o_pl (m_callC c ok.k_least_in (r.mono (by omega)) g.f_least_in (a_val m_var (a_val m_var a_nil)))) os_nil) g.b_repr (by decide +kernel))) (o_prim (m_bi (fun _ o => cb_repr (c.k o) c.units c.guards) (os_cons o_var os_nil) g.b_repr (by decide +kernel))))) (o_prim (m_cmp (fun _ o => dr_in (c.k o) c.units) o_var o_var))) (b_cons (s_ret m_bl) b_nil) b_nil) (b_cons (s_set c (m_ty (fun _ o => cb_tuple (c.k o) (c.t o)) (os_cons (o_pl (m_comp c (own := [("row", 7)]) (i_seq c (m_callC c ok.k__law_rows (r.mono (by omega)) g.f__law_rows (a_val m_var a_nil))) blk_mk (fun _ _ _ _ _ => (g_nm (c.blk))) (fun _ _ _ _ _ => (ts_one (t_cmp (fun _ o => dr_notin ((c.blk).k o) (c.blk).units) o_var (o_prim (m_ix (c.blk) o_var o_int))))) (fun _ _ _ _ _ => m_var))) os_nil) g.b_tuple (by decide +kernel))) (b_cons (s_if (t_cmp (fun _ o => dr_ne (c.k o) c.units) (o_prim (m_cmp (fun _ o => dr_eq (c.k o) c.units) (o_prim (m_ix c (o_pl (m_callC c ok.k_fitted (r.mono (by omega)) g.f_fitted (a_val m_var (a_val m_var (a_val (m_ix c o_var o_int) (a_val m_var a_nil)))))) o_int)) o_str)) (o_prim (m_cmp (fun _ o => dr_in (c.k o) c.units) o_var o_var))) (b_cons (s_ret m_bl) b_nil) b_nil) b_nil)))))) (b_cons (s_ret m_bl) b_nil))))
theorem S__law_right : FnScope N__law_right p__law_right (defScope (top 75)) := fs_mk
theorem W__law_right (g : Gf K mg w base cs) (ok : AllOk P w K mg base cs k (3 * k)) : Ok1 P w K mg base (tbC cs) tab PP (k + 1) (3 * k + 2 + 1) "_law_right" p__law_right :=
  def_okC (d := D__law_right) g.u__law_right S__law_right (by kernel_rfl) rfl (by decide) rfl (tbC_ok cs) fun cdv A outer s H hcd r c => (b_cons (s_set c (m_callC0 c ok.k__law_kinds (r.mono (by omega)) g.f__law_kinds)) (b_cons (s_set c (m_ty (fun _ o => cb_tuple (c.k o) (c.t o)) (os_cons (o_pl (m_comp c (own := [("kind", 5)]) (i_seq c m_var) blk_mk (fun _ _ _ _ _ => (g_nm (c.blk))) (fun _ _ _ _ _ => ts_nil) (fun _ _ _ _ _ => (m_tup (c.blk) (ms_cons m_var (ms_cons (m_bi (fun _ o => cb_len ((c.blk).k o)) (os_cons (o_pl (m_callC (c.blk) ok.k__law_all_bits (r.mono (by omega)) g.f__law_all_bits (a_val m_var (a_val m_var a_nil)))) os_nil) g.b_len (by decide +kernel)) ms_nil)))))) os_nil) g.b_tuple (by decide +kernel))) (b_cons (s_set c (m_callC c ok.k_kind_sizes (r.mono (by omega)) g.f_kind_sizes (a_val m_var a_nil))) (b_cons (s_if (t_cmp (fun _ o => dr_ne (c.k o) c.units) (o_prim (m_bi (fun _ o => cb_repr (c.k o) c.units c.guards) (os_cons (o_pl (m_lst c (ms_cons m_var (ms_cons (m_callCK0 c ok.k_kind_sizes (r.mono (by omega)) g.f_kind_sizes (kb_kind_sizes_0_places g) (k_val m_var k_nil)) ms_nil)))) os_nil) g.b_repr (by decide +kernel))) (o_prim (m_bi (fun _ o => cb_repr (c.k o) c.units c.guards) (os_cons (o_pl (m_lst c (ms_cons m_var (ms_cons m_var ms_nil)))) os_nil) g.b_repr (by decide +kernel)))) (b_cons (s_ret m_bl) b_nil) b_nil) (b_cons (s_for c (i_seq c m_var) (g_tp c (pgs_cons' c (pgs_cons' c pgs_nil)) rfl) (b_cons (s_if (t_cmp (fun _ o => dr_ne (c.k o) c.units) (o_pl (m_comp c (own := [("other", 9), ("greater", 10)]) (i_seq c m_var) blk_mk (fun _ _ _ _ _ => (g_tp (c.blk) (pgs_cons' (c.blk) (pgs_cons' (c.blk) pgs_nil)) rfl)) (fun _ _ _ _ _ => (ts_one (eW.eT (w_and (t_val (m_callC (c.blk) ok.k__law_lies (r.mono (by omega)) g.f__law_lies (a_val m_var (a_val m_var a_nil)))) (w_and1 (t_cmp (fun _ o => dr_gt ((c.blk).k o) (c.blk).units) o_var o_var)))))) (fun _ _ _ _ _ => m_int))) (o_pl (m_lst c ms_nil))) (b_cons (s_ret m_bl) b_nil) b_nil) b_nil)) (b_cons (s_if (t_cmp (fun _ o => dr_gt (c.k o) c.units) o_var o_int) (b_cons (s_ret m_bl) b_nil) b_nil) (b_cons (s_for c (i_rng1 m_int g.b_range) (g_nm c) (b_cons (s_set c (m_callC c ok.k__law_draw (r.mono (by omega)) g.f__law_draw (a_ref (a_val (m_bi (fun _ o => cb_len (c.k o)) (os_cons o_var os_nil) g.b_len (by decide +kernel)) a_nil)))) (b_cons (s_if (t_not (t_val (m_callC c ok.k__law_list_right (r.mono (by omega)) g.f__law_list_right (a_val (m_ix c o_var o_var) (a_val m_var (a_val (m_ix c (o_prim (m_ix c o_var o_var)) o_int) a_nil)))))) (b_cons (s_ret m_bl) b_nil) b_nil) b_nil))) (b_cons (s_ret m_bl) b_nil))))))))
theorem S_law : FnScope N_law p_law (defScope (top 76)) := fs_mk
theorem W_law (g : Gf K mg w base cs) (ok : AllOk P w K mg base cs k (3 * k)) : Ok1 P w K mg base (tbC cs) tab PP (k + 1) (3 * k + 2 + 1) "law" p_law :=
  def_okC (d := D_law) g.u_law S_law (by kernel_rfl) rfl (by decide) rfl (tbC_ok cs) fun cdv A outer s H hcd r c => (b_cons (s_for c (i_rng1 (m_bi (fun _ _ => cb_max c.calm) (os_cons o_int (os_cons (o_prim (m_bi (fun _ _ => cb_min c.calm) (os_cons (o_prim (m_bi (fun _ o => cb_len (c.k o)) (os_cons o_var os_nil) g.b_len (by decide +kernel))) (os_cons o_int os_nil)) g.b_min (by decide +kernel))) os_nil)) g.b_max (by decide +kernel)) g.b_range) (g_nm c) (b_cons (s_set c (m_callC c ok.k__law_pot (r.mono (by omega)) g.f__law_pot (a_val m_var (a_val m_var a_nil)))) (b_cons (s_set c (m_ife (t_cmp (fun _ o => dr_eq (c.k o) c.units) o_var o_int) (m_callC c ok.k__law_draw (r.mono (by omega)) g.f__law_draw (a_ref (a_val m_int a_nil))) (m_callC c ok.k__law_draw (r.mono (by omega)) g.f__law_draw (a_ref (a_val m_int a_nil))))) (b_cons (s_if (t_not (t_val (m_callC c ok.k__law_right (r.mono (by omega)) g.f__law_right (a_ref (a_val m_var a_nil))))) (b_cons (s_ret m_bl) b_nil) b_nil) b_nil)))) (b_cons (s_ret m_bl) b_nil))
theorem all_step (g : Gf K mg w base cs) (ok : AllOk P w K mg base cs k (3 * k)) : AllOk P w K mg base cs (k + 1) (3 * (k + 1)) :=
  ⟨W_is_integer g ok, W_is_within g ok, W_is_value g ok, W_is_row g ok, W_is_rising g ok, W_is_tuple_of g ok, W_is_word g ok, W_need_number g ok, W_code_of g ok, W_row_of g ok, W_all_rows g ok, W_is_relation_form g ok, W_need_relation g ok, W_mask_of g ok, W_relation_of g ok, W_full_mask g ok, W_holds_to g ok, W_all_clauses g ok, W_noughts_in g ok, W_ones_in g ok, W_row_sum g ok, W_fits_equation g ok, W_all_equations g ok, W_need_kind g ok, W_lets_clause g ok, W_lets_equation g ok, W_plain_masks g ok, W_least_mask g ok, W_least_of g ok, W_lies_at g ok, W_is_in g ok, W_least_in g ok, W_masks_in g ok, W_kind_sizes g ok, W_all_in g ok, W_need_rows g ok, W_mask_of_rows g ok, W_least_for g ok, W_fitted g ok, W__law_pot g ok, W__law_draw g ok, W__law_rows g ok, W__law_kinds g ok, W__law_clause_masks g ok, W__law_sum_masks g ok, W__law_has_clause g ok, W__law_kind_masks g ok, W__law_unbits g ok, W__law_features g ok, W__law_lies g ok, W__law_all_bits g ok, W__law_relations g ok, W__law_list_right g ok, W__law_right g ok, W_law g ok⟩
theorem all_zero : AllOk P w K mg base cs 0 0 := ⟨def_zero, def_zero, def_zero, def_zero, def_zero, def_zero, def_zero, def_zero, def_zero, def_zero, def_zero, def_zero, def_zero, def_zero, def_zero, def_zero, def_zero, def_zero, def_zero, def_zero, def_zero, def_zero, def_zero, def_zero, def_zero, def_zero, def_zero, def_zero, def_zero, def_zero, def_zero, def_zero, def_zero, def_zero, def_zero, def_zero, def_zero, def_zero, def_zero, def_zero, def_zero, def_zero, def_zero, def_zero, def_zero, def_zero, def_zero, def_zero, def_zero, def_zero, def_zero, def_zero, def_zero, def_zero, def_zero⟩
theorem all_ok (g : Gf K mg w base cs) : ∀ k, AllOk P w K mg base cs k (3 * k)
  | 0 => all_zero
  | k + 1 => all_step g (all_ok g k)
end
end Wk
set_option autoImplicit false
set_option maxHeartbeats 200000
/-! k92, the plain part 1: what the heavy defs compute. -/
namespace Wk
open PySem Ty
abbrev I (n : Nat) : PyData := .int (n : Int)
theorem band_nat (a b : Nat) : Builtin.bitAnd (a : Int) (b : Int) = ((a &&& b : Nat) : Int) := by
  unfold Builtin.bitAnd
  rw [decide_eq_true (Int.natCast_nonneg a), decide_eq_true (Int.natCast_nonneg b)]
  rfl
theorem bandn_nat (a b : Nat) : Builtin.bitAnd (a : Int) (Builtin.bitNot (b : Int)) = (a : Int) - ((a &&& b : Nat) : Int) := by
  have e : Builtin.bitNot (Builtin.bitNot (b : Int)) = b := by unfold Builtin.bitNot; omega
  unfold Builtin.bitAnd
  rw [decide_eq_true (Int.natCast_nonneg a), decide_eq_false (by unfold Builtin.bitNot; omega)]
  show (a : Int) - (((a : Int).toNat &&& (Builtin.bitNot (Builtin.bitNot (b : Int))).toNat : Nat) : Int) = _
  rw [e]
  rfl
theorem eqv_nat (a b : Nat) : PyData.eqv (I a) (I b) = (a == b) := by
  show ((a : Int) == (b : Int)) = (a == b)
  by_cases h : a = b
  · subst h
    rw [beq_self_eq_true, beq_self_eq_true]
  · rw [beq_eq_false_iff_ne.mpr h, beq_eq_false_iff_ne.mpr (show (a : Int) ≠ (b : Int) by omega)]
def fullN (p : Nat) : Nat := 2 ^ (2 ^ p) - 1
theorem k_full {Φ : Fns} (p : Nat) (hp : p ≤ 4) : kD Φ D_full_mask [.fro (I p)] = .ok (I (fullN p), false) [.fro (I p)] := by
  have : p = 0 ∨ p = 1 ∨ p = 2 ∨ p = 3 ∨ p = 4 := by omega
  rcases this with rfl | rfl | rfl | rfl | rfl <;> rfl

/-! ### least_mask -/
def lmN (m : Nat) : List Nat → Nat → Nat
  | [], f => f
  | q :: ps, f => lmN m ps (if m &&& q == m then f &&& q else f)
abbrev lmT : Ex := .prim .eq (.cons (.prim .band (.cons (.var 2) (.cons (.prim .inv (.cons (.var 4) .nil)) .nil))) (.cons (.con (.int 0)) .nil))
abbrev lmB : Sms := (.cons (.ifs lmT (.cons (.aug 3 .band (.var 4)) .nil) .nil) .nil)
theorem lm_body {Φ : Fns} {a b : Option Sl} (m q f : Nat) : kxs Φ lmB [a, b, some (.fro (I m)), some (.fro (I f)), some (.fro (I q))] = .nx [a, b, some (.fro (I m)), some (.fro (I (if m &&& q == m then f &&& q else f))), some (.fro (I q))] := by
  have h : kT (kv Φ lmT) [a, b, some (.fro (I m)), some (.fro (I f)), some (.fro (I q))] = .ok (m &&& q == m) [a, b, some (.fro (I m)), some (.fro (I f)), some (.fro (I q))] := by
    have e : PyData.eqv (.int (Builtin.bitAnd (m : Int) (Builtin.bitNot (q : Int)))) (.int 0) = (m &&& q == m) := by
      rw [bandn_nat]
      show ((m : Int) - ((m &&& q : Nat) : Int) == 0) = _
      generalize m &&& q = n
      by_cases z : n = m
      · subst z
        rw [beq_self_eq_true, Int.sub_self, beq_self_eq_true]
      · rw [beq_eq_false_iff_ne.mpr z, beq_eq_false_iff_ne.mpr (show (m : Int) - (n : Int) ≠ 0 by omega)]
    rw [← e]
    rfl
  refine (kxs_nx ((kx_if h).trans ?_)).trans kxs_nil
  cases z : m &&& q == m with
  | true =>
    show SO.nx [a, b, some (.fro (I m)), some (.fro (.int (Builtin.bitAnd (f : Int) (q : Int)))), some (.fro (I q))] = _
    rw [band_nat]
    rfl
  | false => rfl
theorem lm_loop {Φ : Fns} {a b : Option Sl} (m : Nat) : ∀ (ps : List Nat) (f : Nat) (w : Option D), ∃ w' : Option D, forL (.nm 4) (kxs Φ lmB) (ps.map I) [a, b, some (.fro (I m)), some (.fro (I f)), w.map .fro] = .nx [a, b, some (.fro (I m)), some (.fro (I (lmN m ps f))), w'.map .fro]
  | [], f, w => ⟨w, rfl⟩
  | q :: ps, f, w => by
    obtain ⟨w', h⟩ := lm_loop m ps (if m &&& q == m then f &&& q else f) (some (I q))
    exact ⟨w', (forL_nx (ρ1 := [a, b, some (.fro (I m)), some (.fro (I f)), some (.fro (I q))]) (by cases w <;> rfl) (lm_body m q f)).trans h⟩
theorem k_least {Φ : Fns} (ps : List Nat) (p : D) (m f : Nat) (hf : Φ "full_mask" [.fro p] = .ok (I f, false) [.fro p]) : kD Φ D_least_mask [.fro (.list (ps.map I)), .fro p, .fro (I m)] = .ok (I (lmN m ps f), false) [.fro (.list (ps.map I)), .fro p, .fro (I m)] := by
  obtain ⟨w', h⟩ := lm_loop (Φ := Φ) (a := some (.fro (.list (ps.map I)))) (b := some (.fro p)) m ps f none
  exact (kD_rt rfl ((kxs_nx (kx_asg (kv_call [p] rfl hf) rfl)).trans ((kxs_nx ((kx_for rfl).trans h)).trans (kxs_rt (kx_ret rfl))))).trans rfl

/-! ### masks_in -/
abbrev miF (Φ : Fns) (x : D) : M (Option D) := bnd (setTg (.nm 3) (x, false)) fun _ => bnd (kC Φ (.cons (.prim .eq (.cons (.call "least_mask" (.val (.var 2) (.val (.var 1) (.val (.var 3) .nil)))) (.cons (.var 3) .nil))) .nil)) fun k => if k = true then bnd (kv Φ (.var 3)) fun r => ret (some r.1) else ret none
theorem mi_turn {Φ : Fns} {a : Option Sl} (L : D) (p : D) (m l : Nat) (h3 : Φ "least_mask" [.fro L, .fro p, .fro (I m)] = .ok (I l, false) [.fro L, .fro p, .fro (I m)]) (o : Sl) (ho : o = .fro L ∨ o = .own false L) :
    miF Φ (I m) [a, some (.fro p), some o, none] = .ok (if l == m then some (I m) else none) [a, some (.fro p), some (.fro L), some (.fro (I m))] := by
  have e1 : setTg (.nm 3) (I m, false) [a, some (.fro p), some o, none] = .ok () [a, some (.fro p), some o, some (.fro (I m))] := rfl
  have e2 : kA Φ (.val (.var 2) (.val (.var 1) (.val (.var 3) .nil))) [a, some (.fro p), some o, some (.fro (I m))] = .ok ([L, p, I m].map .val) [a, some (.fro p), some (.fro L), some (.fro (I m))] := by
    rcases ho with rfl | rfl <;> rfl
  have e3 : kv Φ (.prim .eq (.cons (.call "least_mask" (.val (.var 2) (.val (.var 1) (.val (.var 3) .nil)))) (.cons (.var 3) .nil))) [a, some (.fro p), some o, some (.fro (I m))] = .ok (.bool (l == m), false) [a, some (.fro p), some (.fro L), some (.fro (I m))] := by
    refine kv_prim (kOs_cons (oOf_val (kv_call [L, p, I m] e2 h3)) (kOs_cons rfl rfl)) ?_
    rw [← eqv_nat]
    rfl
  show bnd (setTg (.nm 3) (I m, false)) _ _ = _
  rw [bnd_at e1, bnd_at (kC_one e3)]
  cases l == m <;> rfl
def miN (ms : List Nat) (f : Nat) : List Nat := (List.range (f + 1)).filter fun m => lmN m ms f == m
theorem range_nat (n : Nat) : rangeD 0 n = (List.range n).map I := by
  unfold rangeD
  refine (List.map_congr_left fun i _ => ?_)
  show PyData.int (0 + (i : Int)) = .int i
  rw [Int.zero_add]
theorem fm_filter {α : Type} (p : α → Bool) (mk : α → D) (g : D → Option D) (h : ∀ x, g (mk x) = if p x = true then some (mk x) else none) : ∀ xs : List α, (xs.map mk).filterMap g = (xs.filter p).map mk
  | [] => rfl
  | x :: xs => by
    rw [List.map_cons, List.filter_cons]
    cases q : p x with
    | true => rw [List.filterMap_cons_some (by rw [h, q]; rfl), fm_filter p mk g h xs]; rfl
    | false => rw [List.filterMap_cons_none (by rw [h, q]; rfl), fm_filter p mk g h xs]; rfl
theorem k_masks {Φ : Fns} (kd : D) (p : D) (ms : List Nat) (f : Nat) (hf : f ≤ 70000) (h1 : Φ "plain_masks" [.fro kd, .fro p] = .ok (.list (ms.map I), true) [.fro kd, .fro p]) (h2 : Φ "full_mask" [.fro p] = .ok (I f, false) [.fro p])
    (h3 : ∀ m : Nat, Φ "least_mask" [.fro (.list (ms.map I)), .fro p, .fro (I m)] = .ok (I (lmN m ms f), false) [.fro (.list (ms.map I)), .fro p, .fro (I m)]) : kD Φ D_masks_in [.fro kd, .fro p] = .ok (.list ((miN ms f).map I), true) [.fro kd, .fro p] := by
  have e1 : kx Φ (.asg (.nm 2) (.call "plain_masks" (.val (.var 0) (.val (.var 1) .nil)))) [some (.fro kd), some (.fro p), none, none] = .nx [some (.fro kd), some (.fro p), some (.own false (.list (ms.map I))), none] := kx_asg (kv_call [kd, p] rfl h1) rfl
  have e2 : kI Φ (.rng1 (.prim .add (.cons (.call "full_mask" (.val (.var 1) .nil)) (.cons (.con (.int 1)) .nil)))) [some (.fro kd), some (.fro p), some (.own false (.list (ms.map I))), none] = .ok ((List.range (f + 1)).map I) [some (.fro kd), some (.fro p), some (.own false (.list (ms.map I))), none] := by
    have a : kv Φ (.prim .add (.cons (.call "full_mask" (.val (.var 1) .nil)) (.cons (.con (.int 1)) .nil))) [some (.fro kd), some (.fro p), some (.own false (.list (ms.map I))), none] = .ok (.int ((f : Int) + 1), false) [some (.fro kd), some (.fro p), some (.own false (.list (ms.map I))), none] := by
      exact kv_prim (kOs_cons (oOf_val (kv_call [p] rfl h2)) (kOs_cons rfl rfl)) rfl
    rw [kI_rng1 (n := f + 1) a (by omega), range_nat]
  let J : Ty.Env → Prop := fun ρ => ∃ o, (o = .fro (.list (ms.map I)) ∨ o = .own false (.list (ms.map I))) ∧ ρ = [some (.fro kd), some (.fro p), some o, none]
  let g : D → Option D := fun x => match x with
    | .int i => if lmN i.toNat ms f == i.toNat then some (.int i) else none
    | _ => none
  obtain ⟨ρe, e3, o, ho, rfl⟩ := each_inv (own := [3]) (f := miF Φ) (g := g) (J := J) ((List.range (f + 1)).map I) (fun ρ j x hx => by
    obtain ⟨o, ho, rfl⟩ := j
    obtain ⟨m, _, rfl⟩ := List.mem_map.mp hx
    exact ⟨_, mi_turn _ p m _ (h3 m) o ho, rfl, _, .inl rfl, rfl⟩) _ ⟨_, .inr rfl, rfl⟩
  have e4 : ((List.range (f + 1)).map I).filterMap g = (miN ms f).map I := fm_filter (fun m => lmN m ms f == m) I g (fun m => rfl) _
  have e5 : kv Φ (.comp [3] (.nm 3) (.rng1 (.prim .add (.cons (.call "full_mask" (.val (.var 1) .nil)) (.cons (.con (.int 1)) .nil)))) (.cons (.prim .eq (.cons (.call "least_mask" (.val (.var 2) (.val (.var 1) (.val (.var 3) .nil)))) (.cons (.var 3) .nil))) .nil) (.var 3)) [some (.fro kd), some (.fro p), some (.own false (.list (ms.map I))), none] = .ok (.list ((miN ms f).map I), true) [some (.fro kd), some (.fro p), some o, none] := by
    show bnd (kI Φ _) _ _ = _
    rw [bnd_at e2, bnd_at (show fewD _ _ = .ok () _ from if_pos (by rw [List.length_map, List.length_range]; omega))]
    rw [e4] at e3
    show bnd (blk [3] (each [3] (miF Φ) ((List.range (f + 1)).map I))) _ _ = _
    rw [bnd_at (show blk [3] (each [3] (miF Φ) ((List.range (f + 1)).map I)) _ = .ok ((miN ms f).map I) [some (.fro kd), some (.fro p), some o, none] from ?_)]
    · rfl
    · exact blk_at (own := [3]) (ρ := [some (.fro kd), some (.fro p), some (.own false (.list (ms.map I))), none]) (ρ' := [some (.fro kd), some (.fro p), some o, none]) rfl e3 rfl
  exact (kD_rt rfl ((kxs_nx e1).trans (kxs_rt (kx_retV e5)))).trans rfl

/-! ### _law_all_bits -/
theorem le_int (a b : Int) : PySem.W.dataLe false PyData.int a b = decide (a ≤ b) := by
  rw [PySem.W.dataLe_eq]
  show (!PySem.W.dataLt (.int b) (.int a)) = _
  rw [← ltD_eq]
  show (!decide (b < a)) = decide (a ≤ b)
  by_cases h : b < a
  · rw [decide_eq_true h, decide_eq_false (by omega)]; rfl
  · rw [decide_eq_false h, decide_eq_true (by omega)]; rfl
def bmN (l : List Nat) : Nat := l.foldr (fun x a => a ||| 2 ^ x) 0
theorem bm_bit (l : List Nat) (i : Nat) : Nat.testBit (bmN l) i = decide (i ∈ l) := by
  induction l with
  | nil => simp [bmN]
  | cons x r ih =>
    show Nat.testBit (bmN r ||| 2 ^ x) i = _
    rw [Nat.testBit_or, ih, Nat.testBit_two_pow]
    by_cases h : x = i
    · subst h; simp
    · have h' : ¬ i = x := fun z => h z.symm
      simp [h, h']
def nextN (xs : List Nat) (q : Nat) : List Nat := (List.range 256).filter fun i => Nat.testBit (bmN (xs ++ xs.map (· &&& q))) i
theorem next_mem {xs : List Nat} {q : Nat} (h : ∀ x ∈ xs, x < 256) {i : Nat} : i ∈ nextN xs q ↔ i ∈ xs ++ xs.map (· &&& q) := by
  unfold nextN
  rw [List.mem_filter, List.mem_range, bm_bit, decide_eq_true_eq]
  refine ⟨fun z => z.2, fun z => ⟨?_, z⟩⟩
  rcases List.mem_append.mp z with z | z
  · exact h i z
  · obtain ⟨y, hy, rfl⟩ := List.mem_map.mp z
    exact Nat.lt_of_le_of_lt Nat.and_le_left (h y hy)
theorem next_lt {xs : List Nat} {q : Nat} : ∀ x ∈ nextN xs q, x < 256 := fun x hx => List.mem_range.mp (List.mem_filter.mp hx).1
theorem next_len {xs : List Nat} {q : Nat} : (nextN xs q).length ≤ 256 := by
  have := List.length_filter_le (fun i => Nat.testBit (bmN (xs ++ xs.map (· &&& q))) i) (List.range 256)
  rwa [List.length_range] at this
theorem ints_I (l : List Nat) : intsOf (l.map I) = some (l.map Int.ofNat) := by
  induction l with
  | nil => rfl
  | cons x r ih =>
    show (intsOf (r.map I)).map ((x : Int) :: ·) = _
    rw [ih]; rfl
theorem next_sort {xs : List Nat} {q : Nat} (h : ∀ x ∈ xs, x < 256) : sortD (((xs ++ xs.map (· &&& q)).map Int.ofNat).eraseDups.map PyData.int) = (nextN xs q).map I := by
  have nd : ((nextN xs q).map Int.ofNat).Nodup := List.Pairwise.map Int.ofNat (R := fun a b : Nat => a ≠ b) (S := fun a b : Int => a ≠ b) (fun a b ne e => ne (Int.ofNat.inj e)) (List.Pairwise.filter _ List.nodup_range)
  have pm := perm_dups (l := (nextN xs q).map Int.ofNat) (ns := (xs ++ xs.map (· &&& q)).map Int.ofNat) nd fun k => by
    rw [decide_eq_true_eq, List.mem_map, List.mem_map]
    exact ⟨fun ⟨i, hi, e⟩ => ⟨i, (next_mem h).mp hi, e⟩, fun ⟨i, hi, e⟩ => ⟨i, (next_mem h).mpr hi, e⟩⟩
  have ps : ((nextN xs q).map Int.ofNat).Pairwise fun a b => PySem.W.dataLe false PyData.int a b = true := by
    refine List.Pairwise.map _ (R := fun a b : Nat => a < b) (fun a b e => ?_) (List.Pairwise.filter _ List.pairwise_lt_range)
    rw [le_int, decide_eq_true_eq]
    exact Int.ofNat_le.mpr (Nat.le_of_lt e)
  rw [← sort_perm pm, List.mergeSort_of_pairwise ps, List.map_map]
  rfl
theorem fm_map {α : Type} (mk : α → D) (k : α → D) (g : D → Option D) (h : ∀ x, g (mk x) = some (k x)) : ∀ xs : List α, (xs.map mk).filterMap g = xs.map k
  | [] => rfl
  | x :: xs => by
    rw [List.map_cons, List.filterMap_cons_some (h x), fm_map mk k g h xs]
    rfl
abbrev abC : Ex := .comp [4] (.nm 4) (.seq (.var 2)) .nil (.prim .band (.cons (.var 4) (.cons (.var 3) .nil)))
abbrev abB : Sms := .cons (.asg (.nm 2) (.sset (.prim .add (.cons (.var 2) (.cons abC .nil))))) .nil
theorem ab_comp {Φ : Fns} {a b : Option Sl} (xs : List Nat) (q : Nat) (hl : xs.length ≤ 300) : kv Φ abC [a, b, some (.own false (.list (xs.map I))), some (.fro (I q)), none] = .ok (.list ((xs.map (· &&& q)).map I), true) [a, b, some (.fro (.list (xs.map I))), some (.fro (I q)), none] := by
  have e := kv_comp (Φ := Φ) (ρ := [a, b, some (.own false (.list (xs.map I))), some (.fro (I q)), none]) (ρ1 := [a, b, some (.fro (.list (xs.map I))), some (.fro (I q)), none]) (own := [4]) (t := .nm 4) (it := .seq (.var 2)) (ifs := .nil) (e := .prim .band (.cons (.var 4) (.cons (.var 3) .nil)))
    (g := fun x => match x with
      | .int i => some (.int (Builtin.bitAnd i (q : Int)))
      | _ => none) (xs := xs.map I) rfl (by rw [List.length_map]; omega) rfl (fun x hx => by
      obtain ⟨n, _, rfl⟩ := List.mem_map.mp hx
      exact ⟨[a, b, some (.fro (.list (xs.map I))), some (.fro (I q)), some (.fro (I n))], rfl, rfl, rfl⟩)
  have z := fm_map I (fun n => I (n &&& q)) (fun x => match x with
      | .int i => some (.int (Builtin.bitAnd i (q : Int)))
      | _ => none) (fun n => by
        show some (PyData.int (Builtin.bitAnd (n : Int) (q : Int))) = _
        rw [band_nat]) xs
  rw [e, z, List.map_map]
  rfl
theorem ab_body {Φ : Fns} {a b : Option Sl} (xs : List Nat) (q : Nat) (hl : xs.length ≤ 300) (h : ∀ x ∈ xs, x < 256) : kxs Φ abB [a, b, some (.own false (.list (xs.map I))), some (.fro (I q)), none] = .nx [a, b, some (.own false (.list ((nextN xs q).map I))), some (.fro (I q)), none] := by
  have e1 : kv Φ (.prim .add (.cons (.var 2) (.cons abC .nil))) [a, b, some (.own false (.list (xs.map I))), some (.fro (I q)), none] = .ok (.list ((xs ++ xs.map (· &&& q)).map I), true) [a, b, some (.fro (.list (xs.map I))), some (.fro (I q)), none] := by
    refine kv_prim (kOs_cons (x := .slot 2) rfl (kOs_cons (oOf_val (ab_comp xs q hl)) rfl)) ?_
    show (match (if (xs.map I).length + ((xs.map (· &&& q)).map I).length ≤ 1000000 then some (PyData.list (xs.map I ++ (xs.map (· &&& q)).map I), true) else none) with
      | some r => Out.ok r _
      | none => .bad) = _
    rw [if_pos (by simp only [List.length_map]; omega), List.map_append]
  have e2 : kv Φ (.sset (.prim .add (.cons (.var 2) (.cons abC .nil)))) [a, b, some (.own false (.list (xs.map I))), some (.fro (I q)), none] = .ok (.list ((nextN xs q).map I), true) [a, b, some (.fro (.list (xs.map I))), some (.fro (I q)), none] := by
    show bnd (oOf _ (kv Φ _)) _ _ = _
    rw [bnd_at (oOf_val e1)]
    show (match intsOf ((xs ++ xs.map (· &&& q)).map I) with
      | some ns => if decide (ns.length ≤ 2000) then Out.ok (PyData.list (sortD (ns.eraseDups.map PyData.int)), true) _ else .bad
      | none => .bad) = _
    rw [ints_I]
    simp only
    rw [if_pos (by rw [decide_eq_true_eq]; simp only [List.length_map, List.length_append]; omega), next_sort h]
  exact kxs_nx (kx_asg e2 rfl)
def abN (ms : List Nat) (xs : List Nat) : List Nat := ms.foldl nextN xs
theorem ab_loop {Φ : Fns} {a b : Option Sl} : ∀ (ms xs : List Nat) (w : Option D), xs.length ≤ 300 → (∀ x ∈ xs, x < 256) → ∃ w' : Option D, forL (.nm 3) (kxs Φ abB) (ms.map I) [a, b, some (.own false (.list (xs.map I))), w.map .fro, none] = .nx [a, b, some (.own false (.list ((abN ms xs).map I))), w'.map .fro, none]
  | [], xs, w, _, _ => ⟨w, rfl⟩
  | q :: ms, xs, w, h1, h2 => by
    obtain ⟨w', h⟩ := ab_loop (Φ := Φ) (a := a) (b := b) ms (nextN xs q) (some (I q)) (Nat.le_trans next_len (by decide)) next_lt
    exact ⟨w', (forL_nx (ρ1 := [a, b, some (.own false (.list (xs.map I))), some (.fro (I q)), none]) (by cases w <;> rfl) (ab_body xs q h1 h2)).trans h⟩
theorem k_bits {Φ : Fns} (kd : D) (p : Nat) (hp : p ≤ 3) (ms : List Nat) (h1 : Φ "_law_kind_masks" [.fro kd, .fro (I p)] = .ok (.list (ms.map I), true) [.fro kd, .fro (I p)]) : kD Φ D__law_all_bits [.fro kd, .fro (I p)] = .ok (.list ((abN ms [fullN p]).map I), true) [.fro kd, .fro (I p)] := by
  have hf : fullN p < 256 := by
    have : p = 0 ∨ p = 1 ∨ p = 2 ∨ p = 3 := by omega
    rcases this with rfl | rfl | rfl | rfl <;> decide
  have e0 : kx Φ (.asg (.nm 2) (.lst (.cons (.prim .sub (.cons (.prim .shl (.cons (.con (.int 1)) (.cons (.prim .shl (.cons (.con (.int 1)) (.cons (.var 1) .nil))) .nil))) (.cons (.con (.int 1)) .nil))) .nil))) [some (.fro kd), some (.fro (I p)), none, none, none] = .nx [some (.fro kd), some (.fro (I p)), some (.own false (.list ([fullN p].map I))), none, none] := by
    have : p = 0 ∨ p = 1 ∨ p = 2 ∨ p = 3 := by omega
    rcases this with rfl | rfl | rfl | rfl <;> rfl
  obtain ⟨w', h⟩ := ab_loop (Φ := Φ) (a := some (.fro kd)) (b := some (.fro (I p))) ms [fullN p] none (show 1 ≤ 300 by decide) (fun x hx => by rw [List.mem_singleton.mp hx]; exact hf)
  exact (kD_rt rfl ((kxs_nx e0).trans ((kxs_nx ((kx_for (kI_list (kv_call [kd, I p] rfl h1))).trans h)).trans (kxs_rt (kx_ret rfl))))).trans rfl
end Wk
set_option autoImplicit false
set_option maxHeartbeats 200000
/-! k92, the plain part 2: answers that are known by a rule. -/
namespace Wk
open PySem Ty
theorem natsI {ds : List D} {ns : List Nat} (h : natsD ds = some ns) : ds = ns.map I := natsD_eq h
theorem natI {d : D} {n : Nat} (h : natD d = some n) : d = I n := natD_eq h
theorem run_full {k p : Nat} (hp : p ≤ 4) : Ty.run tab PP (k + 1) "full_mask" [.fro (I p)] = .ok (I (fullN p), false) [.fro (I p)] := run_of (d := D_full_mask) rfl (k_full p hp)
theorem run_least {k p m : Nat} (ps : List Nat) (hp : p ≤ 4) : Ty.run tab PP (k + 2) "least_mask" [.fro (.list (ps.map I)), .fro (I p), .fro (I m)] = .ok (I (lmN m ps (fullN p)), false) [.fro (.list (ps.map I)), .fro (I p), .fro (I m)] :=
  run_of (d := D_least_mask) rfl (k_least ps (I p) m (fullN p) (run_full hp))
def oFull : Ora := fun f ss => if decide (f = "full_mask") = true then (match ss with
  | [.fro d] => (match natD d with
    | some p => if p ≤ 4 then some (.ok (I (fullN p), false) ss) else none
    | none => none)
  | _ => none) else none
def oLeast : Ora := fun f ss => if decide (f = "least_mask") = true then (match ss with
  | [.fro (.list ds), .fro dp, .fro dm] => (match natD dp with
    | some p => if p ≤ 4 then (match natD dm with
      | some m => (match natsD ds with
        | some ps => some (.ok (I (lmN m ps (fullN p)), false) ss)
        | none => none)
      | none => none) else none
    | none => none)
  | _ => none) else none
theorem full_ok : OraOk tab PP oFull 2 := fun f ss r ps e => by
  unfold oFull at e
  split at e
  · rename_i q
    have hf : f = "full_mask" := of_decide_eq_true q
    subst hf
    split at e
    · rename_i d
      split at e
      · rename_i p q2
        split at e
        · rename_i hp
          cases e
          rw [natI q2]
          exact run_full hp
        · cases e
      · cases e
    · cases e
  · cases e
theorem least_ok : OraOk tab PP oLeast 2 := fun f ss r ps e => by
  unfold oLeast at e
  split at e
  · rename_i q
    have hf : f = "least_mask" := of_decide_eq_true q
    subst hf
    split at e
    · rename_i ds dp dm
      split at e
      · rename_i p q2
        split at e
        · rename_i hp
          split at e
          · rename_i m q3
            split at e
            · rename_i ns q4
              cases e
              rw [natI q2, natI q3, natsI q4]
              exact run_least ns hp
            · cases e
          · cases e
        · cases e
      · cases e
    · cases e
  · cases e
def oA : Ora := orO oLeast oFull
theorem oA_ok : OraOk tab PP oA 2 := or_ok least_ok full_ok
end Wk
set_option autoImplicit false
set_option maxHeartbeats 200000
namespace Wk
open PySem Ty
/-! k92, the plain part 3: answers that are known by a table. -/
def E1 : TabE := [("all_rows", [([.int 0], .list [.tuple []], true),
  ([.int 1], .list [.tuple [.int 0], .tuple [.int 1]], true),
  ([.int 2], .list [.tuple [.int 0, .int 0], .tuple [.int 0, .int 1], .tuple [.int 1, .int 0], .tuple [.int 1, .int 1]], true),
  ([.int 3], .list [.tuple [.int 0, .int 0, .int 0], .tuple [.int 0, .int 0, .int 1], .tuple [.int 0, .int 1, .int 0], .tuple [.int 0, .int 1, .int 1], .tuple [.int 1, .int 0, .int 0], .tuple [.int 1, .int 0, .int 1], .tuple [.int 1, .int 1, .int 0], .tuple [.int 1, .int 1, .int 1]], true)]),
 ("all_clauses", [([.int 0], .list [.tuple []], true),
  ([.int 1], .list [.tuple [], .tuple [.tuple [.int 0, .int 0]], .tuple [.tuple [.int 0, .int 1]]], true),
  ([.int 2], .list [.tuple [], .tuple [.tuple [.int 0, .int 0]], .tuple [.tuple [.int 0, .int 0], .tuple [.int 1, .int 0]], .tuple [.tuple [.int 0, .int 0], .tuple [.int 1, .int 1]], .tuple [.tuple [.int 0, .int 1]], .tuple [.tuple [.int 0, .int 1], .tuple [.int 1, .int 0]], .tuple [.tuple [.int 0, .int 1], .tuple [.int 1, .int 1]], .tuple [.tuple [.int 1, .int 0]], .tuple [.tuple [.int 1, .int 1]]], true),
  ([.int 3], .list [.tuple [], .tuple [.tuple [.int 0, .int 0]], .tuple [.tuple [.int 0, .int 0], .tuple [.int 1, .int 0]], .tuple [.tuple [.int 0, .int 0], .tuple [.int 1, .int 0], .tuple [.int 2, .int 0]], .tuple [.tuple [.int 0, .int 0], .tuple [.int 1, .int 0], .tuple [.int 2, .int 1]], .tuple [.tuple [.int 0, .int 0], .tuple [.int 1, .int 1]], .tuple [.tuple [.int 0, .int 0], .tuple [.int 1, .int 1], .tuple [.int 2, .int 0]], .tuple [.tuple [.int 0, .int 0], .tuple [.int 1, .int 1], .tuple [.int 2, .int 1]], .tuple [.tuple [.int 0, .int 0], .tuple [.int 2, .int 0]], .tuple [.tuple [.int 0, .int 0], .tuple [.int 2, .int 1]], .tuple [.tuple [.int 0, .int 1]], .tuple [.tuple [.int 0, .int 1], .tuple [.int 1, .int 0]], .tuple [.tuple [.int 0, .int 1], .tuple [.int 1, .int 0], .tuple [.int 2, .int 0]], .tuple [.tuple [.int 0, .int 1], .tuple [.int 1, .int 0], .tuple [.int 2, .int 1]], .tuple [.tuple [.int 0, .int 1], .tuple [.int 1, .int 1]], .tuple [.tuple [.int 0, .int 1], .tuple [.int 1, .int 1], .tuple [.int 2, .int 0]], .tuple [.tuple [.int 0, .int 1], .tuple [.int 1, .int 1], .tuple [.int 2, .int 1]], .tuple [.tuple [.int 0, .int 1], .tuple [.int 2, .int 0]], .tuple [.tuple [.int 0, .int 1], .tuple [.int 2, .int 1]], .tuple [.tuple [.int 1, .int 0]], .tuple [.tuple [.int 1, .int 0], .tuple [.int 2, .int 0]], .tuple [.tuple [.int 1, .int 0], .tuple [.int 2, .int 1]], .tuple [.tuple [.int 1, .int 1]], .tuple [.tuple [.int 1, .int 1], .tuple [.int 2, .int 0]], .tuple [.tuple [.int 1, .int 1], .tuple [.int 2, .int 1]], .tuple [.tuple [.int 2, .int 0]], .tuple [.tuple [.int 2, .int 1]]], true)]),
 ("all_equations", [([.int 0], .list [.tuple [.tuple [], .int 0], .tuple [.tuple [], .int 1]], true),
  ([.int 1], .list [.tuple [.tuple [], .int 0], .tuple [.tuple [], .int 1], .tuple [.tuple [.int 0], .int 0], .tuple [.tuple [.int 0], .int 1]], true),
  ([.int 2], .list [.tuple [.tuple [], .int 0], .tuple [.tuple [], .int 1], .tuple [.tuple [.int 0], .int 0], .tuple [.tuple [.int 0], .int 1], .tuple [.tuple [.int 0, .int 1], .int 0], .tuple [.tuple [.int 0, .int 1], .int 1], .tuple [.tuple [.int 1], .int 0], .tuple [.tuple [.int 1], .int 1]], true),
  ([.int 3], .list [.tuple [.tuple [], .int 0], .tuple [.tuple [], .int 1], .tuple [.tuple [.int 0], .int 0], .tuple [.tuple [.int 0], .int 1], .tuple [.tuple [.int 0, .int 1], .int 0], .tuple [.tuple [.int 0, .int 1], .int 1], .tuple [.tuple [.int 0, .int 1, .int 2], .int 0], .tuple [.tuple [.int 0, .int 1, .int 2], .int 1], .tuple [.tuple [.int 0, .int 2], .int 0], .tuple [.tuple [.int 0, .int 2], .int 1], .tuple [.tuple [.int 1], .int 0], .tuple [.tuple [.int 1], .int 1], .tuple [.tuple [.int 1, .int 2], .int 0], .tuple [.tuple [.int 1, .int 2], .int 1], .tuple [.tuple [.int 2], .int 0], .tuple [.tuple [.int 2], .int 1]], true)]),
 ("_law_rows", [([.int 0], .list [.tuple []], true),
  ([.int 1], .list [.tuple [.int 0], .tuple [.int 1]], true),
  ([.int 2], .list [.tuple [.int 0, .int 0], .tuple [.int 0, .int 1], .tuple [.int 1, .int 0], .tuple [.int 1, .int 1]], true),
  ([.int 3], .list [.tuple [.int 0, .int 0, .int 0], .tuple [.int 0, .int 0, .int 1], .tuple [.int 0, .int 1, .int 0], .tuple [.int 0, .int 1, .int 1], .tuple [.int 1, .int 0, .int 0], .tuple [.int 1, .int 0, .int 1], .tuple [.int 1, .int 1, .int 0], .tuple [.int 1, .int 1, .int 1]], true)]),
 ("_law_clause_masks", [([.int 0], .list [.tuple [.int 0, .int 0, .int 0]], true),
  ([.int 1], .list [.tuple [.int 0, .int 0, .int 0], .tuple [.int 1, .int 0, .int 2], .tuple [.int 1, .int 1, .int 1]], true),
  ([.int 2], .list [.tuple [.int 0, .int 0, .int 0], .tuple [.int 1, .int 0, .int 12], .tuple [.int 1, .int 1, .int 3], .tuple [.int 1, .int 0, .int 10], .tuple [.int 2, .int 0, .int 14], .tuple [.int 2, .int 1, .int 11], .tuple [.int 1, .int 1, .int 5], .tuple [.int 2, .int 1, .int 13], .tuple [.int 2, .int 2, .int 7]], true),
  ([.int 3], .list [.tuple [.int 0, .int 0, .int 0], .tuple [.int 1, .int 0, .int 240], .tuple [.int 1, .int 1, .int 15], .tuple [.int 1, .int 0, .int 204], .tuple [.int 2, .int 0, .int 252], .tuple [.int 2, .int 1, .int 207], .tuple [.int 1, .int 1, .int 51], .tuple [.int 2, .int 1, .int 243], .tuple [.int 2, .int 2, .int 63], .tuple [.int 1, .int 0, .int 170], .tuple [.int 2, .int 0, .int 250], .tuple [.int 2, .int 1, .int 175], .tuple [.int 2, .int 0, .int 238], .tuple [.int 3, .int 0, .int 254], .tuple [.int 3, .int 1, .int 239], .tuple [.int 2, .int 1, .int 187], .tuple [.int 3, .int 1, .int 251], .tuple [.int 3, .int 2, .int 191], .tuple [.int 1, .int 1, .int 85], .tuple [.int 2, .int 1, .int 245], .tuple [.int 2, .int 2, .int 95], .tuple [.int 2, .int 1, .int 221], .tuple [.int 3, .int 1, .int 253], .tuple [.int 3, .int 2, .int 223], .tuple [.int 2, .int 2, .int 119], .tuple [.int 3, .int 2, .int 247], .tuple [.int 3, .int 3, .int 127]], true)]),
 ("_law_sum_masks", [([.int 0], .list [.tuple [.int 0, .int 0]], true),
  ([.int 1], .list [.tuple [.int 0, .int 0], .tuple [.int 1, .int 2]], true),
  ([.int 2], .list [.tuple [.int 0, .int 0], .tuple [.int 1, .int 12], .tuple [.int 1, .int 10], .tuple [.int 2, .int 6]], true),
  ([.int 3], .list [.tuple [.int 0, .int 0], .tuple [.int 1, .int 240], .tuple [.int 1, .int 204], .tuple [.int 2, .int 60], .tuple [.int 1, .int 170], .tuple [.int 2, .int 90], .tuple [.int 2, .int 102], .tuple [.int 3, .int 150]], true)]),
 ("_law_kinds", [([], .list [.str "all", .str "and2", .str "and2order", .str "and3", .str "and3order", .str "and4", .str "and4order", .str "joins", .str "meets", .str "or2", .str "or2order", .str "or3", .str "or3order", .str "or4", .str "or4order", .str "order", .str "pairs", .str "sums", .str "unlike", .str "values"], true)]),
 ("_law_features", [([.str "all"], .list [.int 4, .int 4, .int 1, .int 1, .int 1, .int 1, .int 1], true),
  ([.str "and2"], .list [.int 1, .int 2, .int 0, .int 0, .int 0, .int 0, .int 0], true),
  ([.str "and2order"], .list [.int 1, .int 2, .int 1, .int 0, .int 0, .int 0, .int 0], true),
  ([.str "and3"], .list [.int 1, .int 3, .int 0, .int 0, .int 0, .int 0, .int 0], true),
  ([.str "and3order"], .list [.int 1, .int 3, .int 1, .int 0, .int 0, .int 0, .int 0], true),
  ([.str "and4"], .list [.int 1, .int 4, .int 0, .int 0, .int 0, .int 0, .int 0], true),
  ([.str "and4order"], .list [.int 1, .int 4, .int 1, .int 0, .int 0, .int 0, .int 0], true),
  ([.str "joins"], .list [.int 4, .int 1, .int 1, .int 0, .int 0, .int 1, .int 0], true),
  ([.str "meets"], .list [.int 1, .int 4, .int 1, .int 0, .int 0, .int 0, .int 1], true),
  ([.str "or2"], .list [.int 2, .int 1, .int 0, .int 0, .int 0, .int 0, .int 0], true),
  ([.str "or2order"], .list [.int 2, .int 1, .int 1, .int 0, .int 0, .int 0, .int 0], true),
  ([.str "or3"], .list [.int 3, .int 1, .int 0, .int 0, .int 0, .int 0, .int 0], true),
  ([.str "or3order"], .list [.int 3, .int 1, .int 1, .int 0, .int 0, .int 0, .int 0], true),
  ([.str "or4"], .list [.int 4, .int 1, .int 0, .int 0, .int 0, .int 0, .int 0], true),
  ([.str "or4order"], .list [.int 4, .int 1, .int 1, .int 0, .int 0, .int 0, .int 0], true),
  ([.str "order"], .list [.int 1, .int 1, .int 1, .int 0, .int 0, .int 0, .int 0], true),
  ([.str "pairs"], .list [.int 2, .int 2, .int 1, .int 1, .int 0, .int 0, .int 0], true),
  ([.str "sums"], .list [.int 1, .int 1, .int 0, .int 1, .int 1, .int 0, .int 0], true),
  ([.str "unlike"], .list [.int 1, .int 1, .int 0, .int 1, .int 0, .int 0, .int 0], true),
  ([.str "values"], .list [.int 1, .int 1, .int 0, .int 0, .int 0, .int 0, .int 0], true)])]
theorem E1_ok : chkT (kRun tab oA 4) E1 = true := by kernel_rfl
theorem o1_ok : OraOk tab PP (tabO E1) 6 := tab_ok oA_ok E1_ok
def oB : Ora := orO (tabO E1) oA
theorem oB_ok : OraOk tab PP oB 6 := or_ok o1_ok (oA_ok.up (by decide))
def allE (f : PySem.Str) (es : List Ent) : Bool := es.all fun e => chkE (kRun tab oB 5) f e
end Wk
set_option autoImplicit false
set_option maxHeartbeats 200000
namespace Wk
open PySem Ty
/-! k92, the plain part 4: more of them. -/
def M0 : List Ent := [([.str "all", .int 0], .list [.int 0], true),
  ([.str "all", .int 1], .list [.int 0, .int 1, .int 2], true),
  ([.str "all", .int 2], .list [.int 0, .int 3, .int 7, .int 11, .int 12, .int 13, .int 14, .int 5, .int 10, .int 9], true),
  ([.str "all", .int 3], .list [.int 0, .int 15, .int 63, .int 127, .int 191, .int 207, .int 223, .int 239, .int 95, .int 175, .int 240, .int 243, .int 247, .int 251, .int 252, .int 253, .int 254, .int 245, .int 250, .int 51, .int 119, .int 187, .int 204, .int 221, .int 238, .int 85, .int 170, .int 195, .int 165, .int 153], true)]
def L0 : List Ent := [([.str "all", .int 0], .list [.int 0], true),
  ([.str "all", .int 1], .list [.int 0, .int 2, .int 1], true),
  ([.str "all", .int 2], .list [.int 0, .int 12, .int 3, .int 10, .int 14, .int 11, .int 5, .int 13, .int 7, .int 9], true),
  ([.str "all", .int 3], .list [.int 0, .int 240, .int 15, .int 204, .int 252, .int 207, .int 51, .int 243, .int 63, .int 170, .int 250, .int 175, .int 238, .int 254, .int 239, .int 187, .int 251, .int 191, .int 85, .int 245, .int 95, .int 221, .int 253, .int 223, .int 119, .int 247, .int 127, .int 195, .int 165, .int 153], true)]
def M1 : List Ent := [([.str "and2", .int 0], .list [.int 0], true),
  ([.str "and2", .int 1], .list [.int 0, .int 1, .int 2], true),
  ([.str "and2", .int 2], .list [.int 0, .int 3, .int 7, .int 12, .int 5, .int 10, .int 9], true),
  ([.str "and2", .int 3], .list [.int 0, .int 15, .int 63, .int 95, .int 240, .int 51, .int 119, .int 204, .int 85, .int 170, .int 195, .int 165, .int 153], true)]
def L1 : List Ent := [([.str "and2", .int 0], .list [.int 0], true),
  ([.str "and2", .int 1], .list [.int 0, .int 2, .int 1], true),
  ([.str "and2", .int 2], .list [.int 0, .int 12, .int 3, .int 10, .int 5, .int 7, .int 9], true),
  ([.str "and2", .int 3], .list [.int 0, .int 240, .int 15, .int 204, .int 51, .int 63, .int 170, .int 85, .int 95, .int 119, .int 195, .int 165, .int 153], true)]
def M2 : List Ent := [([.str "and2order", .int 0], .list [.int 0], true),
  ([.str "and2order", .int 1], .list [.int 0, .int 1, .int 2], true),
  ([.str "and2order", .int 2], .list [.int 0, .int 3, .int 7, .int 11, .int 12, .int 13, .int 5, .int 10, .int 9], true),
  ([.str "and2order", .int 3], .list [.int 0, .int 15, .int 63, .int 207, .int 95, .int 175, .int 240, .int 243, .int 245, .int 51, .int 119, .int 187, .int 204, .int 221, .int 85, .int 170, .int 195, .int 165, .int 153], true)]
def L2 : List Ent := [([.str "and2order", .int 0], .list [.int 0], true),
  ([.str "and2order", .int 1], .list [.int 0, .int 2, .int 1], true),
  ([.str "and2order", .int 2], .list [.int 0, .int 12, .int 3, .int 10, .int 11, .int 5, .int 13, .int 7, .int 9], true),
  ([.str "and2order", .int 3], .list [.int 0, .int 240, .int 15, .int 204, .int 207, .int 51, .int 243, .int 63, .int 170, .int 175, .int 187, .int 85, .int 245, .int 95, .int 221, .int 119, .int 195, .int 165, .int 153], true)]
def M3 : List Ent := [([.str "and3", .int 0], .list [.int 0], true),
  ([.str "and3", .int 1], .list [.int 0, .int 1, .int 2], true),
  ([.str "and3", .int 2], .list [.int 0, .int 3, .int 7, .int 12, .int 5, .int 10, .int 9], true),
  ([.str "and3", .int 3], .list [.int 0, .int 15, .int 63, .int 127, .int 95, .int 240, .int 51, .int 119, .int 204, .int 85, .int 170, .int 195, .int 165, .int 153], true)]
def L3 : List Ent := [([.str "and3", .int 0], .list [.int 0], true),
  ([.str "and3", .int 1], .list [.int 0, .int 2, .int 1], true),
  ([.str "and3", .int 2], .list [.int 0, .int 12, .int 3, .int 10, .int 5, .int 7, .int 9], true),
  ([.str "and3", .int 3], .list [.int 0, .int 240, .int 15, .int 204, .int 51, .int 63, .int 170, .int 85, .int 95, .int 119, .int 127, .int 195, .int 165, .int 153], true)]
def M4 : List Ent := [([.str "and3order", .int 0], .list [.int 0], true),
  ([.str "and3order", .int 1], .list [.int 0, .int 1, .int 2], true),
  ([.str "and3order", .int 2], .list [.int 0, .int 3, .int 7, .int 11, .int 12, .int 13, .int 5, .int 10, .int 9], true),
  ([.str "and3order", .int 3], .list [.int 0, .int 15, .int 63, .int 127, .int 207, .int 95, .int 175, .int 240, .int 243, .int 245, .int 51, .int 119, .int 187, .int 204, .int 221, .int 85, .int 170, .int 195, .int 165, .int 153], true)]
def L4 : List Ent := [([.str "and3order", .int 0], .list [.int 0], true),
  ([.str "and3order", .int 1], .list [.int 0, .int 2, .int 1], true),
  ([.str "and3order", .int 2], .list [.int 0, .int 12, .int 3, .int 10, .int 11, .int 5, .int 13, .int 7, .int 9], true),
  ([.str "and3order", .int 3], .list [.int 0, .int 240, .int 15, .int 204, .int 207, .int 51, .int 243, .int 63, .int 170, .int 175, .int 187, .int 85, .int 245, .int 95, .int 221, .int 119, .int 127, .int 195, .int 165, .int 153], true)]
def M5 : List Ent := [([.str "and4", .int 0], .list [.int 0], true),
  ([.str "and4", .int 1], .list [.int 0, .int 1, .int 2], true),
  ([.str "and4", .int 2], .list [.int 0, .int 3, .int 7, .int 12, .int 5, .int 10, .int 9], true),
  ([.str "and4", .int 3], .list [.int 0, .int 15, .int 63, .int 127, .int 95, .int 240, .int 51, .int 119, .int 204, .int 85, .int 170, .int 195, .int 165, .int 153], true)]
def L5 : List Ent := [([.str "and4", .int 0], .list [.int 0], true),
  ([.str "and4", .int 1], .list [.int 0, .int 2, .int 1], true),
  ([.str "and4", .int 2], .list [.int 0, .int 12, .int 3, .int 10, .int 5, .int 7, .int 9], true),
  ([.str "and4", .int 3], .list [.int 0, .int 240, .int 15, .int 204, .int 51, .int 63, .int 170, .int 85, .int 95, .int 119, .int 127, .int 195, .int 165, .int 153], true)]
def M6 : List Ent := [([.str "and4order", .int 0], .list [.int 0], true),
  ([.str "and4order", .int 1], .list [.int 0, .int 1, .int 2], true),
  ([.str "and4order", .int 2], .list [.int 0, .int 3, .int 7, .int 11, .int 12, .int 13, .int 5, .int 10, .int 9], true),
  ([.str "and4order", .int 3], .list [.int 0, .int 15, .int 63, .int 127, .int 207, .int 95, .int 175, .int 240, .int 243, .int 245, .int 51, .int 119, .int 187, .int 204, .int 221, .int 85, .int 170, .int 195, .int 165, .int 153], true)]
def L6 : List Ent := [([.str "and4order", .int 0], .list [.int 0], true),
  ([.str "and4order", .int 1], .list [.int 0, .int 2, .int 1], true),
  ([.str "and4order", .int 2], .list [.int 0, .int 12, .int 3, .int 10, .int 11, .int 5, .int 13, .int 7, .int 9], true),
  ([.str "and4order", .int 3], .list [.int 0, .int 240, .int 15, .int 204, .int 207, .int 51, .int 243, .int 63, .int 170, .int 175, .int 187, .int 85, .int 245, .int 95, .int 221, .int 119, .int 127, .int 195, .int 165, .int 153], true)]
def M7 : List Ent := [([.str "joins", .int 0], .list [.int 0], true),
  ([.str "joins", .int 1], .list [.int 0, .int 1, .int 2], true),
  ([.str "joins", .int 2], .list [.int 0, .int 3, .int 11, .int 12, .int 13, .int 14, .int 5, .int 10, .int 9], true),
  ([.str "joins", .int 3], .list [.int 0, .int 15, .int 207, .int 239, .int 175, .int 240, .int 243, .int 251, .int 252, .int 253, .int 254, .int 245, .int 250, .int 51, .int 187, .int 204, .int 221, .int 238, .int 85, .int 170, .int 195, .int 165, .int 153], true)]
def L7 : List Ent := [([.str "joins", .int 0], .list [.int 0], true),
  ([.str "joins", .int 1], .list [.int 0, .int 2, .int 1], true),
  ([.str "joins", .int 2], .list [.int 0, .int 12, .int 3, .int 10, .int 14, .int 11, .int 5, .int 13, .int 9], true),
  ([.str "joins", .int 3], .list [.int 0, .int 240, .int 15, .int 204, .int 252, .int 207, .int 51, .int 243, .int 170, .int 250, .int 175, .int 238, .int 254, .int 239, .int 187, .int 251, .int 85, .int 245, .int 221, .int 253, .int 195, .int 165, .int 153], true)]
def M8 : List Ent := [([.str "meets", .int 0], .list [.int 0], true),
  ([.str "meets", .int 1], .list [.int 0, .int 1, .int 2], true),
  ([.str "meets", .int 2], .list [.int 0, .int 3, .int 7, .int 11, .int 12, .int 13, .int 5, .int 10, .int 9], true),
  ([.str "meets", .int 3], .list [.int 0, .int 15, .int 63, .int 127, .int 191, .int 207, .int 223, .int 95, .int 175, .int 240, .int 243, .int 247, .int 245, .int 51, .int 119, .int 187, .int 204, .int 221, .int 85, .int 170, .int 195, .int 165, .int 153], true)]
def L8 : List Ent := [([.str "meets", .int 0], .list [.int 0], true),
  ([.str "meets", .int 1], .list [.int 0, .int 2, .int 1], true),
  ([.str "meets", .int 2], .list [.int 0, .int 12, .int 3, .int 10, .int 11, .int 5, .int 13, .int 7, .int 9], true),
  ([.str "meets", .int 3], .list [.int 0, .int 240, .int 15, .int 204, .int 207, .int 51, .int 243, .int 63, .int 170, .int 175, .int 187, .int 191, .int 85, .int 245, .int 95, .int 221, .int 223, .int 119, .int 247, .int 127, .int 195, .int 165, .int 153], true)]
def M9 : List Ent := [([.str "or2", .int 0], .list [.int 0], true),
  ([.str "or2", .int 1], .list [.int 0, .int 1, .int 2], true),
  ([.str "or2", .int 2], .list [.int 0, .int 3, .int 12, .int 14, .int 5, .int 10, .int 9], true),
  ([.str "or2", .int 3], .list [.int 0, .int 15, .int 240, .int 252, .int 250, .int 51, .int 204, .int 238, .int 85, .int 170, .int 195, .int 165, .int 153], true)]
def L9 : List Ent := [([.str "or2", .int 0], .list [.int 0], true),
  ([.str "or2", .int 1], .list [.int 0, .int 2, .int 1], true),
  ([.str "or2", .int 2], .list [.int 0, .int 12, .int 3, .int 10, .int 14, .int 5, .int 9], true),
  ([.str "or2", .int 3], .list [.int 0, .int 240, .int 15, .int 204, .int 252, .int 51, .int 170, .int 250, .int 238, .int 85, .int 195, .int 165, .int 153], true)]
def M10 : List Ent := [([.str "or2order", .int 0], .list [.int 0], true),
  ([.str "or2order", .int 1], .list [.int 0, .int 1, .int 2], true),
  ([.str "or2order", .int 2], .list [.int 0, .int 3, .int 11, .int 12, .int 13, .int 14, .int 5, .int 10, .int 9], true),
  ([.str "or2order", .int 3], .list [.int 0, .int 15, .int 207, .int 175, .int 240, .int 243, .int 252, .int 245, .int 250, .int 51, .int 187, .int 204, .int 221, .int 238, .int 85, .int 170, .int 195, .int 165, .int 153], true)]
def L10 : List Ent := [([.str "or2order", .int 0], .list [.int 0], true),
  ([.str "or2order", .int 1], .list [.int 0, .int 2, .int 1], true),
  ([.str "or2order", .int 2], .list [.int 0, .int 12, .int 3, .int 10, .int 14, .int 11, .int 5, .int 13, .int 9], true),
  ([.str "or2order", .int 3], .list [.int 0, .int 240, .int 15, .int 204, .int 252, .int 207, .int 51, .int 243, .int 170, .int 250, .int 175, .int 238, .int 187, .int 85, .int 245, .int 221, .int 195, .int 165, .int 153], true)]
def M11 : List Ent := [([.str "or3", .int 0], .list [.int 0], true),
  ([.str "or3", .int 1], .list [.int 0, .int 1, .int 2], true),
  ([.str "or3", .int 2], .list [.int 0, .int 3, .int 12, .int 14, .int 5, .int 10, .int 9], true),
  ([.str "or3", .int 3], .list [.int 0, .int 15, .int 240, .int 252, .int 254, .int 250, .int 51, .int 204, .int 238, .int 85, .int 170, .int 195, .int 165, .int 153], true)]
def L11 : List Ent := [([.str "or3", .int 0], .list [.int 0], true),
  ([.str "or3", .int 1], .list [.int 0, .int 2, .int 1], true),
  ([.str "or3", .int 2], .list [.int 0, .int 12, .int 3, .int 10, .int 14, .int 5, .int 9], true),
  ([.str "or3", .int 3], .list [.int 0, .int 240, .int 15, .int 204, .int 252, .int 51, .int 170, .int 250, .int 238, .int 254, .int 85, .int 195, .int 165, .int 153], true)]
def M12 : List Ent := [([.str "or3order", .int 0], .list [.int 0], true),
  ([.str "or3order", .int 1], .list [.int 0, .int 1, .int 2], true),
  ([.str "or3order", .int 2], .list [.int 0, .int 3, .int 11, .int 12, .int 13, .int 14, .int 5, .int 10, .int 9], true),
  ([.str "or3order", .int 3], .list [.int 0, .int 15, .int 207, .int 175, .int 240, .int 243, .int 252, .int 254, .int 245, .int 250, .int 51, .int 187, .int 204, .int 221, .int 238, .int 85, .int 170, .int 195, .int 165, .int 153], true)]
def L12 : List Ent := [([.str "or3order", .int 0], .list [.int 0], true),
  ([.str "or3order", .int 1], .list [.int 0, .int 2, .int 1], true),
  ([.str "or3order", .int 2], .list [.int 0, .int 12, .int 3, .int 10, .int 14, .int 11, .int 5, .int 13, .int 9], true),
  ([.str "or3order", .int 3], .list [.int 0, .int 240, .int 15, .int 204, .int 252, .int 207, .int 51, .int 243, .int 170, .int 250, .int 175, .int 238, .int 254, .int 187, .int 85, .int 245, .int 221, .int 195, .int 165, .int 153], true)]
def M13 : List Ent := [([.str "or4", .int 0], .list [.int 0], true),
  ([.str "or4", .int 1], .list [.int 0, .int 1, .int 2], true),
  ([.str "or4", .int 2], .list [.int 0, .int 3, .int 12, .int 14, .int 5, .int 10, .int 9], true),
  ([.str "or4", .int 3], .list [.int 0, .int 15, .int 240, .int 252, .int 254, .int 250, .int 51, .int 204, .int 238, .int 85, .int 170, .int 195, .int 165, .int 153], true)]
def L13 : List Ent := [([.str "or4", .int 0], .list [.int 0], true),
  ([.str "or4", .int 1], .list [.int 0, .int 2, .int 1], true),
  ([.str "or4", .int 2], .list [.int 0, .int 12, .int 3, .int 10, .int 14, .int 5, .int 9], true),
  ([.str "or4", .int 3], .list [.int 0, .int 240, .int 15, .int 204, .int 252, .int 51, .int 170, .int 250, .int 238, .int 254, .int 85, .int 195, .int 165, .int 153], true)]
def M14 : List Ent := [([.str "or4order", .int 0], .list [.int 0], true),
  ([.str "or4order", .int 1], .list [.int 0, .int 1, .int 2], true),
  ([.str "or4order", .int 2], .list [.int 0, .int 3, .int 11, .int 12, .int 13, .int 14, .int 5, .int 10, .int 9], true),
  ([.str "or4order", .int 3], .list [.int 0, .int 15, .int 207, .int 175, .int 240, .int 243, .int 252, .int 254, .int 245, .int 250, .int 51, .int 187, .int 204, .int 221, .int 238, .int 85, .int 170, .int 195, .int 165, .int 153], true)]
def L14 : List Ent := [([.str "or4order", .int 0], .list [.int 0], true),
  ([.str "or4order", .int 1], .list [.int 0, .int 2, .int 1], true),
  ([.str "or4order", .int 2], .list [.int 0, .int 12, .int 3, .int 10, .int 14, .int 11, .int 5, .int 13, .int 9], true),
  ([.str "or4order", .int 3], .list [.int 0, .int 240, .int 15, .int 204, .int 252, .int 207, .int 51, .int 243, .int 170, .int 250, .int 175, .int 238, .int 254, .int 187, .int 85, .int 245, .int 221, .int 195, .int 165, .int 153], true)]
def M15 : List Ent := [([.str "order", .int 0], .list [.int 0], true),
  ([.str "order", .int 1], .list [.int 0, .int 1, .int 2], true),
  ([.str "order", .int 2], .list [.int 0, .int 3, .int 11, .int 12, .int 13, .int 5, .int 10, .int 9], true),
  ([.str "order", .int 3], .list [.int 0, .int 15, .int 207, .int 175, .int 240, .int 243, .int 245, .int 51, .int 187, .int 204, .int 221, .int 85, .int 170, .int 195, .int 165, .int 153], true)]
def L15 : List Ent := [([.str "order", .int 0], .list [.int 0], true),
  ([.str "order", .int 1], .list [.int 0, .int 2, .int 1], true),
  ([.str "order", .int 2], .list [.int 0, .int 12, .int 3, .int 10, .int 11, .int 5, .int 13, .int 9], true),
  ([.str "order", .int 3], .list [.int 0, .int 240, .int 15, .int 204, .int 207, .int 51, .int 243, .int 170, .int 175, .int 187, .int 85, .int 245, .int 221, .int 195, .int 165, .int 153], true)]
def M16 : List Ent := [([.str "pairs", .int 0], .list [.int 0], true),
  ([.str "pairs", .int 1], .list [.int 0, .int 1, .int 2], true),
  ([.str "pairs", .int 2], .list [.int 0, .int 3, .int 7, .int 11, .int 12, .int 13, .int 14, .int 5, .int 10, .int 9, .int 6], true),
  ([.str "pairs", .int 3], .list [.int 0, .int 15, .int 63, .int 207, .int 95, .int 175, .int 240, .int 243, .int 252, .int 245, .int 250, .int 51, .int 119, .int 187, .int 204, .int 221, .int 238, .int 85, .int 170, .int 195, .int 60, .int 165, .int 90, .int 153, .int 102], true)]
def L16 : List Ent := [([.str "pairs", .int 0], .list [.int 0], true),
  ([.str "pairs", .int 1], .list [.int 0, .int 2, .int 1], true),
  ([.str "pairs", .int 2], .list [.int 0, .int 12, .int 3, .int 10, .int 14, .int 11, .int 5, .int 13, .int 7, .int 9, .int 6], true),
  ([.str "pairs", .int 3], .list [.int 0, .int 240, .int 15, .int 204, .int 252, .int 207, .int 51, .int 243, .int 63, .int 170, .int 250, .int 175, .int 238, .int 187, .int 85, .int 245, .int 95, .int 221, .int 119, .int 195, .int 60, .int 165, .int 90, .int 153, .int 102], true)]
def M17 : List Ent := [([.str "sums", .int 0], .list [.int 0, .int 1, .int 0], true),
  ([.str "sums", .int 1], .list [.int 0, .int 1, .int 2, .int 3, .int 0, .int 1, .int 2], true),
  ([.str "sums", .int 2], .list [.int 0, .int 3, .int 12, .int 5, .int 10, .int 15, .int 0, .int 3, .int 12, .int 9, .int 6, .int 5, .int 10], true),
  ([.str "sums", .int 3], .list [.int 0, .int 15, .int 240, .int 51, .int 204, .int 85, .int 170, .int 255, .int 0, .int 15, .int 240, .int 195, .int 60, .int 105, .int 150, .int 165, .int 90, .int 51, .int 204, .int 153, .int 102, .int 85, .int 170], true)]
def L17 : List Ent := [([.str "sums", .int 0], .list [.int 0, .int 1, .int 0], true),
  ([.str "sums", .int 1], .list [.int 0, .int 2, .int 1, .int 3, .int 0, .int 1, .int 2], true),
  ([.str "sums", .int 2], .list [.int 0, .int 12, .int 3, .int 10, .int 5, .int 15, .int 0, .int 3, .int 12, .int 5, .int 10, .int 9, .int 6], true),
  ([.str "sums", .int 3], .list [.int 0, .int 240, .int 15, .int 204, .int 51, .int 170, .int 85, .int 255, .int 0, .int 15, .int 240, .int 51, .int 204, .int 195, .int 60, .int 85, .int 170, .int 165, .int 90, .int 153, .int 102, .int 105, .int 150], true)]
def M18 : List Ent := [([.str "unlike", .int 0], .list [.int 0], true),
  ([.str "unlike", .int 1], .list [.int 0, .int 1, .int 2], true),
  ([.str "unlike", .int 2], .list [.int 0, .int 3, .int 12, .int 5, .int 10, .int 9, .int 6], true),
  ([.str "unlike", .int 3], .list [.int 0, .int 15, .int 240, .int 51, .int 204, .int 85, .int 170, .int 195, .int 60, .int 165, .int 90, .int 153, .int 102], true)]
def L18 : List Ent := [([.str "unlike", .int 0], .list [.int 0], true),
  ([.str "unlike", .int 1], .list [.int 0, .int 2, .int 1], true),
  ([.str "unlike", .int 2], .list [.int 0, .int 12, .int 3, .int 10, .int 5, .int 9, .int 6], true),
  ([.str "unlike", .int 3], .list [.int 0, .int 240, .int 15, .int 204, .int 51, .int 170, .int 85, .int 195, .int 60, .int 165, .int 90, .int 153, .int 102], true)]
def M19 : List Ent := [([.str "values", .int 0], .list [.int 0], true),
  ([.str "values", .int 1], .list [.int 0, .int 1, .int 2], true),
  ([.str "values", .int 2], .list [.int 0, .int 3, .int 12, .int 5, .int 10, .int 9], true),
  ([.str "values", .int 3], .list [.int 0, .int 15, .int 240, .int 51, .int 204, .int 85, .int 170, .int 195, .int 165, .int 153], true)]
def L19 : List Ent := [([.str "values", .int 0], .list [.int 0], true),
  ([.str "values", .int 1], .list [.int 0, .int 2, .int 1], true),
  ([.str "values", .int 2], .list [.int 0, .int 12, .int 3, .int 10, .int 5, .int 9], true),
  ([.str "values", .int 3], .list [.int 0, .int 240, .int 15, .int 204, .int 51, .int 170, .int 85, .int 195, .int 165, .int 153], true)]
theorem M0_ok : allE "plain_masks" M0 = true := by kernel_rfl
theorem L0_ok : allE "_law_kind_masks" L0 = true := by kernel_rfl
theorem M1_ok : allE "plain_masks" M1 = true := by kernel_rfl
theorem L1_ok : allE "_law_kind_masks" L1 = true := by kernel_rfl
theorem M2_ok : allE "plain_masks" M2 = true := by kernel_rfl
theorem L2_ok : allE "_law_kind_masks" L2 = true := by kernel_rfl
theorem M3_ok : allE "plain_masks" M3 = true := by kernel_rfl
theorem L3_ok : allE "_law_kind_masks" L3 = true := by kernel_rfl
theorem M4_ok : allE "plain_masks" M4 = true := by kernel_rfl
theorem L4_ok : allE "_law_kind_masks" L4 = true := by kernel_rfl
theorem M5_ok : allE "plain_masks" M5 = true := by kernel_rfl
theorem L5_ok : allE "_law_kind_masks" L5 = true := by kernel_rfl
theorem M6_ok : allE "plain_masks" M6 = true := by kernel_rfl
theorem L6_ok : allE "_law_kind_masks" L6 = true := by kernel_rfl
theorem M7_ok : allE "plain_masks" M7 = true := by kernel_rfl
theorem L7_ok : allE "_law_kind_masks" L7 = true := by kernel_rfl
theorem M8_ok : allE "plain_masks" M8 = true := by kernel_rfl
theorem L8_ok : allE "_law_kind_masks" L8 = true := by kernel_rfl
theorem M9_ok : allE "plain_masks" M9 = true := by kernel_rfl
theorem L9_ok : allE "_law_kind_masks" L9 = true := by kernel_rfl
theorem M10_ok : allE "plain_masks" M10 = true := by kernel_rfl
theorem L10_ok : allE "_law_kind_masks" L10 = true := by kernel_rfl
theorem M11_ok : allE "plain_masks" M11 = true := by kernel_rfl
theorem L11_ok : allE "_law_kind_masks" L11 = true := by kernel_rfl
theorem M12_ok : allE "plain_masks" M12 = true := by kernel_rfl
theorem L12_ok : allE "_law_kind_masks" L12 = true := by kernel_rfl
theorem M13_ok : allE "plain_masks" M13 = true := by kernel_rfl
theorem L13_ok : allE "_law_kind_masks" L13 = true := by kernel_rfl
theorem M14_ok : allE "plain_masks" M14 = true := by kernel_rfl
theorem L14_ok : allE "_law_kind_masks" L14 = true := by kernel_rfl
theorem M15_ok : allE "plain_masks" M15 = true := by kernel_rfl
theorem L15_ok : allE "_law_kind_masks" L15 = true := by kernel_rfl
theorem M16_ok : allE "plain_masks" M16 = true := by kernel_rfl
theorem L16_ok : allE "_law_kind_masks" L16 = true := by kernel_rfl
theorem M17_ok : allE "plain_masks" M17 = true := by kernel_rfl
theorem L17_ok : allE "_law_kind_masks" L17 = true := by kernel_rfl
theorem M18_ok : allE "plain_masks" M18 = true := by kernel_rfl
theorem L18_ok : allE "_law_kind_masks" L18 = true := by kernel_rfl
theorem M19_ok : allE "plain_masks" M19 = true := by kernel_rfl
theorem L19_ok : allE "_law_kind_masks" L19 = true := by kernel_rfl
def Ma : List Ent := (M0 ++ M1 ++ M2 ++ M3 ++ M4) ++ (M5 ++ M6 ++ M7 ++ M8 ++ M9) ++ (M10 ++ M11 ++ M12 ++ M13 ++ M14) ++ (M15 ++ M16 ++ M17 ++ M18 ++ M19)
theorem Ma_ok (e : Ent) (h : e ∈ Ma) : chkE (kRun tab oB 5) "plain_masks" e = true := by
  simp only [Ma, List.mem_append] at h
  rcases h with ((((((h | h) | h) | h) | h) | ((((h | h) | h) | h) | h)) | ((((h | h) | h) | h) | h)) | ((((h | h) | h) | h) | h)
  · exact List.all_eq_true.mp M0_ok e h
  · exact List.all_eq_true.mp M1_ok e h
  · exact List.all_eq_true.mp M2_ok e h
  · exact List.all_eq_true.mp M3_ok e h
  · exact List.all_eq_true.mp M4_ok e h
  · exact List.all_eq_true.mp M5_ok e h
  · exact List.all_eq_true.mp M6_ok e h
  · exact List.all_eq_true.mp M7_ok e h
  · exact List.all_eq_true.mp M8_ok e h
  · exact List.all_eq_true.mp M9_ok e h
  · exact List.all_eq_true.mp M10_ok e h
  · exact List.all_eq_true.mp M11_ok e h
  · exact List.all_eq_true.mp M12_ok e h
  · exact List.all_eq_true.mp M13_ok e h
  · exact List.all_eq_true.mp M14_ok e h
  · exact List.all_eq_true.mp M15_ok e h
  · exact List.all_eq_true.mp M16_ok e h
  · exact List.all_eq_true.mp M17_ok e h
  · exact List.all_eq_true.mp M18_ok e h
  · exact List.all_eq_true.mp M19_ok e h
def La : List Ent := (L0 ++ L1 ++ L2 ++ L3 ++ L4) ++ (L5 ++ L6 ++ L7 ++ L8 ++ L9) ++ (L10 ++ L11 ++ L12 ++ L13 ++ L14) ++ (L15 ++ L16 ++ L17 ++ L18 ++ L19)
theorem La_ok (e : Ent) (h : e ∈ La) : chkE (kRun tab oB 5) "_law_kind_masks" e = true := by
  simp only [La, List.mem_append] at h
  rcases h with ((((((h | h) | h) | h) | h) | ((((h | h) | h) | h) | h)) | ((((h | h) | h) | h) | h)) | ((((h | h) | h) | h) | h)
  · exact List.all_eq_true.mp L0_ok e h
  · exact List.all_eq_true.mp L1_ok e h
  · exact List.all_eq_true.mp L2_ok e h
  · exact List.all_eq_true.mp L3_ok e h
  · exact List.all_eq_true.mp L4_ok e h
  · exact List.all_eq_true.mp L5_ok e h
  · exact List.all_eq_true.mp L6_ok e h
  · exact List.all_eq_true.mp L7_ok e h
  · exact List.all_eq_true.mp L8_ok e h
  · exact List.all_eq_true.mp L9_ok e h
  · exact List.all_eq_true.mp L10_ok e h
  · exact List.all_eq_true.mp L11_ok e h
  · exact List.all_eq_true.mp L12_ok e h
  · exact List.all_eq_true.mp L13_ok e h
  · exact List.all_eq_true.mp L14_ok e h
  · exact List.all_eq_true.mp L15_ok e h
  · exact List.all_eq_true.mp L16_ok e h
  · exact List.all_eq_true.mp L17_ok e h
  · exact List.all_eq_true.mp L18_ok e h
  · exact List.all_eq_true.mp L19_ok e h
def T2 : TabE := [("plain_masks", Ma), ("_law_kind_masks", La)]
theorem T2_ok : chkT (kRun tab oB 5) T2 = true := by
  show ((Ma.all fun e => chkE (kRun tab oB 5) "plain_masks" e) && ((La.all fun e => chkE (kRun tab oB 5) "_law_kind_masks" e) && true)) = true
  rw [List.all_eq_true.mpr Ma_ok, List.all_eq_true.mpr La_ok]
  rfl
theorem o2_ok : OraOk tab PP (tabO T2) 11 := tab_ok oB_ok T2_ok
def oC : Ora := orO (tabO T2) oB
theorem oC_ok : OraOk tab PP oC 11 := or_ok o2_ok (oB_ok.up (by decide))
end Wk
set_option autoImplicit false
set_option maxHeartbeats 200000
/-! k92, the plain part 5: masks_in, _law_all_bits. -/
namespace Wk
open PySem Ty
def oMasks : Ora := fun f ss => if decide (f = "masks_in") = true then (match ss with
  | [.fro kd, .fro dp] => (match natD dp with
    | some p => if p ≤ 3 then (match tabO T2 "plain_masks" [.fro kd, .fro dp] with
      | some (.ok (.list ds, true) _) => (match natsD ds with
        | some ms => some (.ok (.list ((miN ms (fullN p)).map I), true) ss)
        | none => none)
      | _ => none) else none
    | none => none)
  | _ => none) else none
def oBits : Ora := fun f ss => if decide (f = "_law_all_bits") = true then (match ss with
  | [.fro kd, .fro dp] => (match natD dp with
    | some p => if p ≤ 3 then (match tabO T2 "_law_kind_masks" [.fro kd, .fro dp] with
      | some (.ok (.list ds, true) _) => (match natsD ds with
        | some ms => some (.ok (.list ((abN ms [fullN p]).map I), true) ss)
        | none => none)
      | _ => none) else none
    | none => none)
  | _ => none) else none
theorem tab_ps {T : TabE} {f : PySem.Str} {ss ps : List Sl} {r : R} (h : tabO T f ss = some (.ok r ps)) : ps = ss := by
  obtain ⟨_, _, _, _, _, _, _, e⟩ := tab_in h
  exact e
theorem full_le {p : Nat} (h : p ≤ 3) : fullN p ≤ 70000 := by
  have : p = 0 ∨ p = 1 ∨ p = 2 ∨ p = 3 := by omega
  rcases this with rfl | rfl | rfl | rfl <;> decide
theorem masks_ok : OraOk tab PP oMasks 12 := fun f ss r ps e => by
  unfold oMasks at e
  split at e
  · rename_i q
    have hf : f = "masks_in" := of_decide_eq_true q
    subst hf
    split at e
    · rename_i kd dp
      split at e
      · rename_i p q2
        split at e
        · rename_i hp
          split at e
          · rename_i ds ps' q3
            split at e
            · rename_i ms q4
              cases e
              have e5 := tab_ps q3
              subst e5
              have z := o2_ok _ _ _ _ q3
              rw [natI q2, natsI q4] at z
              rw [natI q2]
              exact run_of (d := D_masks_in) rfl (k_masks kd (I p) ms (fullN p) (full_le hp) z (run_full (by omega)) fun m => run_least (k := 9) ms (by omega))
            · cases e
          · cases e
        · cases e
      · cases e
    · cases e
  · cases e
theorem bits_ok : OraOk tab PP oBits 12 := fun f ss r ps e => by
  unfold oBits at e
  split at e
  · rename_i q
    have hf : f = "_law_all_bits" := of_decide_eq_true q
    subst hf
    split at e
    · rename_i kd dp
      split at e
      · rename_i p q2
        split at e
        · rename_i hp
          split at e
          · rename_i ds ps' q3
            split at e
            · rename_i ms q4
              cases e
              have e5 := tab_ps q3
              subst e5
              have z := o2_ok _ _ _ _ q3
              rw [natI q2, natsI q4] at z
              rw [natI q2]
              exact run_of (d := D__law_all_bits) rfl (k_bits kd p hp ms z)
            · cases e
          · cases e
        · cases e
      · cases e
    · cases e
  · cases e
def oD : Ora := orO oMasks (orO oBits oC)
theorem oD_ok : OraOk tab PP oD 12 := or_ok masks_ok (or_ok bits_ok (oC_ok.up (by decide)))
end Wk
set_option autoImplicit false
set_option maxHeartbeats 200000
namespace Wk
open PySem Ty
/-! k92, the plain part 6: the sizes; what the law asks of a kind. -/
def E3 : TabE := [("kind_sizes", [([.int 0], .tuple [.tuple [.str "all", .int 2], .tuple [.str "and2", .int 2], .tuple [.str "and2order", .int 2], .tuple [.str "and3", .int 2], .tuple [.str "and3order", .int 2], .tuple [.str "and4", .int 2], .tuple [.str "and4order", .int 2], .tuple [.str "joins", .int 2], .tuple [.str "meets", .int 2], .tuple [.str "or2", .int 2], .tuple [.str "or2order", .int 2], .tuple [.str "or3", .int 2], .tuple [.str "or3order", .int 2], .tuple [.str "or4", .int 2], .tuple [.str "or4order", .int 2], .tuple [.str "order", .int 2], .tuple [.str "pairs", .int 2], .tuple [.str "sums", .int 2], .tuple [.str "unlike", .int 2], .tuple [.str "values", .int 2]], false),
  ([.int 1], .tuple [.tuple [.str "all", .int 4], .tuple [.str "and2", .int 4], .tuple [.str "and2order", .int 4], .tuple [.str "and3", .int 4], .tuple [.str "and3order", .int 4], .tuple [.str "and4", .int 4], .tuple [.str "and4order", .int 4], .tuple [.str "joins", .int 4], .tuple [.str "meets", .int 4], .tuple [.str "or2", .int 4], .tuple [.str "or2order", .int 4], .tuple [.str "or3", .int 4], .tuple [.str "or3order", .int 4], .tuple [.str "or4", .int 4], .tuple [.str "or4order", .int 4], .tuple [.str "order", .int 4], .tuple [.str "pairs", .int 4], .tuple [.str "sums", .int 4], .tuple [.str "unlike", .int 4], .tuple [.str "values", .int 4]], false),
  ([.int 2], .tuple [.tuple [.str "all", .int 16], .tuple [.str "and2", .int 12], .tuple [.str "and2order", .int 14], .tuple [.str "and3", .int 12], .tuple [.str "and3order", .int 14], .tuple [.str "and4", .int 12], .tuple [.str "and4order", .int 14], .tuple [.str "joins", .int 14], .tuple [.str "meets", .int 14], .tuple [.str "or2", .int 12], .tuple [.str "or2order", .int 14], .tuple [.str "or3", .int 12], .tuple [.str "or3order", .int 14], .tuple [.str "or4", .int 12], .tuple [.str "or4order", .int 14], .tuple [.str "order", .int 13], .tuple [.str "pairs", .int 16], .tuple [.str "sums", .int 12], .tuple [.str "unlike", .int 12], .tuple [.str "values", .int 11]], false),
  ([.int 3], .tuple [.tuple [.str "all", .int 256], .tuple [.str "and2", .int 54], .tuple [.str "and2order", .int 105], .tuple [.str "and3", .int 55], .tuple [.str "and3order", .int 106], .tuple [.str "and4", .int 55], .tuple [.str "and4order", .int 106], .tuple [.str "joins", .int 122], .tuple [.str "meets", .int 122], .tuple [.str "or2", .int 54], .tuple [.str "or2order", .int 105], .tuple [.str "or3", .int 55], .tuple [.str "or3order", .int 106], .tuple [.str "or4", .int 55], .tuple [.str "or4order", .int 106], .tuple [.str "order", .int 74], .tuple [.str "pairs", .int 166], .tuple [.str "sums", .int 52], .tuple [.str "unlike", .int 50], .tuple [.str "values", .int 38]], false)]),
 ("need_relation", [([.tuple [.int 0, .tuple []]], .none, false),
  ([.tuple [.int 0, .tuple [.tuple []]]], .none, false),
  ([.tuple [.int 1, .tuple []]], .none, false),
  ([.tuple [.int 1, .tuple [.tuple [.int 0]]]], .none, false),
  ([.tuple [.int 1, .tuple [.tuple [.int 1]]]], .none, false),
  ([.tuple [.int 1, .tuple [.tuple [.int 0], .tuple [.int 1]]]], .none, false),
  ([.tuple [.int 2, .tuple []]], .none, false),
  ([.tuple [.int 2, .tuple [.tuple [.int 0, .int 0]]]], .none, false),
  ([.tuple [.int 2, .tuple [.tuple [.int 0, .int 1]]]], .none, false),
  ([.tuple [.int 2, .tuple [.tuple [.int 0, .int 0], .tuple [.int 0, .int 1]]]], .none, false),
  ([.tuple [.int 2, .tuple [.tuple [.int 1, .int 0]]]], .none, false),
  ([.tuple [.int 2, .tuple [.tuple [.int 0, .int 0], .tuple [.int 1, .int 0]]]], .none, false),
  ([.tuple [.int 2, .tuple [.tuple [.int 0, .int 1], .tuple [.int 1, .int 0]]]], .none, false),
  ([.tuple [.int 2, .tuple [.tuple [.int 0, .int 0], .tuple [.int 0, .int 1], .tuple [.int 1, .int 0]]]], .none, false),
  ([.tuple [.int 2, .tuple [.tuple [.int 1, .int 1]]]], .none, false),
  ([.tuple [.int 2, .tuple [.tuple [.int 0, .int 0], .tuple [.int 1, .int 1]]]], .none, false),
  ([.tuple [.int 2, .tuple [.tuple [.int 0, .int 1], .tuple [.int 1, .int 1]]]], .none, false),
  ([.tuple [.int 2, .tuple [.tuple [.int 0, .int 0], .tuple [.int 0, .int 1], .tuple [.int 1, .int 1]]]], .none, false),
  ([.tuple [.int 2, .tuple [.tuple [.int 1, .int 0], .tuple [.int 1, .int 1]]]], .none, false),
  ([.tuple [.int 2, .tuple [.tuple [.int 0, .int 0], .tuple [.int 1, .int 0], .tuple [.int 1, .int 1]]]], .none, false),
  ([.tuple [.int 2, .tuple [.tuple [.int 0, .int 1], .tuple [.int 1, .int 0], .tuple [.int 1, .int 1]]]], .none, false),
  ([.tuple [.int 2, .tuple [.tuple [.int 0, .int 0], .tuple [.int 0, .int 1], .tuple [.int 1, .int 0], .tuple [.int 1, .int 1]]]], .none, false)]),
 ("relation_of", [([.int 0, .int 0], .tuple [.int 0, .tuple []], false),
  ([.int 0, .int 1], .tuple [.int 0, .tuple [.tuple []]], false),
  ([.int 1, .int 0], .tuple [.int 1, .tuple []], false),
  ([.int 1, .int 1], .tuple [.int 1, .tuple [.tuple [.int 0]]], false),
  ([.int 1, .int 2], .tuple [.int 1, .tuple [.tuple [.int 1]]], false),
  ([.int 1, .int 3], .tuple [.int 1, .tuple [.tuple [.int 0], .tuple [.int 1]]], false),
  ([.int 2, .int 0], .tuple [.int 2, .tuple []], false),
  ([.int 2, .int 1], .tuple [.int 2, .tuple [.tuple [.int 0, .int 0]]], false),
  ([.int 2, .int 2], .tuple [.int 2, .tuple [.tuple [.int 0, .int 1]]], false),
  ([.int 2, .int 3], .tuple [.int 2, .tuple [.tuple [.int 0, .int 0], .tuple [.int 0, .int 1]]], false),
  ([.int 2, .int 4], .tuple [.int 2, .tuple [.tuple [.int 1, .int 0]]], false),
  ([.int 2, .int 5], .tuple [.int 2, .tuple [.tuple [.int 0, .int 0], .tuple [.int 1, .int 0]]], false),
  ([.int 2, .int 6], .tuple [.int 2, .tuple [.tuple [.int 0, .int 1], .tuple [.int 1, .int 0]]], false),
  ([.int 2, .int 7], .tuple [.int 2, .tuple [.tuple [.int 0, .int 0], .tuple [.int 0, .int 1], .tuple [.int 1, .int 0]]], false),
  ([.int 2, .int 8], .tuple [.int 2, .tuple [.tuple [.int 1, .int 1]]], false),
  ([.int 2, .int 9], .tuple [.int 2, .tuple [.tuple [.int 0, .int 0], .tuple [.int 1, .int 1]]], false),
  ([.int 2, .int 10], .tuple [.int 2, .tuple [.tuple [.int 0, .int 1], .tuple [.int 1, .int 1]]], false),
  ([.int 2, .int 11], .tuple [.int 2, .tuple [.tuple [.int 0, .int 0], .tuple [.int 0, .int 1], .tuple [.int 1, .int 1]]], false),
  ([.int 2, .int 12], .tuple [.int 2, .tuple [.tuple [.int 1, .int 0], .tuple [.int 1, .int 1]]], false),
  ([.int 2, .int 13], .tuple [.int 2, .tuple [.tuple [.int 0, .int 0], .tuple [.int 1, .int 0], .tuple [.int 1, .int 1]]], false),
  ([.int 2, .int 14], .tuple [.int 2, .tuple [.tuple [.int 0, .int 1], .tuple [.int 1, .int 0], .tuple [.int 1, .int 1]]], false),
  ([.int 2, .int 15], .tuple [.int 2, .tuple [.tuple [.int 0, .int 0], .tuple [.int 0, .int 1], .tuple [.int 1, .int 0], .tuple [.int 1, .int 1]]], false)]),
 ("mask_of", [([.tuple [.int 0, .tuple []]], .int 0, false),
  ([.tuple [.int 0, .tuple [.tuple []]]], .int 1, false),
  ([.tuple [.int 1, .tuple []]], .int 0, false),
  ([.tuple [.int 1, .tuple [.tuple [.int 0]]]], .int 1, false),
  ([.tuple [.int 1, .tuple [.tuple [.int 1]]]], .int 2, false),
  ([.tuple [.int 1, .tuple [.tuple [.int 0], .tuple [.int 1]]]], .int 3, false),
  ([.tuple [.int 2, .tuple []]], .int 0, false),
  ([.tuple [.int 2, .tuple [.tuple [.int 0, .int 0]]]], .int 1, false),
  ([.tuple [.int 2, .tuple [.tuple [.int 0, .int 1]]]], .int 2, false),
  ([.tuple [.int 2, .tuple [.tuple [.int 0, .int 0], .tuple [.int 0, .int 1]]]], .int 3, false),
  ([.tuple [.int 2, .tuple [.tuple [.int 1, .int 0]]]], .int 4, false),
  ([.tuple [.int 2, .tuple [.tuple [.int 0, .int 0], .tuple [.int 1, .int 0]]]], .int 5, false),
  ([.tuple [.int 2, .tuple [.tuple [.int 0, .int 1], .tuple [.int 1, .int 0]]]], .int 6, false),
  ([.tuple [.int 2, .tuple [.tuple [.int 0, .int 0], .tuple [.int 0, .int 1], .tuple [.int 1, .int 0]]]], .int 7, false),
  ([.tuple [.int 2, .tuple [.tuple [.int 1, .int 1]]]], .int 8, false),
  ([.tuple [.int 2, .tuple [.tuple [.int 0, .int 0], .tuple [.int 1, .int 1]]]], .int 9, false),
  ([.tuple [.int 2, .tuple [.tuple [.int 0, .int 1], .tuple [.int 1, .int 1]]]], .int 10, false),
  ([.tuple [.int 2, .tuple [.tuple [.int 0, .int 0], .tuple [.int 0, .int 1], .tuple [.int 1, .int 1]]]], .int 11, false),
  ([.tuple [.int 2, .tuple [.tuple [.int 1, .int 0], .tuple [.int 1, .int 1]]]], .int 12, false),
  ([.tuple [.int 2, .tuple [.tuple [.int 0, .int 0], .tuple [.int 1, .int 0], .tuple [.int 1, .int 1]]]], .int 13, false),
  ([.tuple [.int 2, .tuple [.tuple [.int 0, .int 1], .tuple [.int 1, .int 0], .tuple [.int 1, .int 1]]]], .int 14, false),
  ([.tuple [.int 2, .tuple [.tuple [.int 0, .int 0], .tuple [.int 0, .int 1], .tuple [.int 1, .int 0], .tuple [.int 1, .int 1]]]], .int 15, false)]),
 ("_law_unbits", [([.int 0, .int 0], .tuple [.int 0, .tuple []], false),
  ([.int 0, .int 1], .tuple [.int 0, .tuple [.tuple []]], false),
  ([.int 1, .int 0], .tuple [.int 1, .tuple []], false),
  ([.int 1, .int 1], .tuple [.int 1, .tuple [.tuple [.int 0]]], false),
  ([.int 1, .int 2], .tuple [.int 1, .tuple [.tuple [.int 1]]], false),
  ([.int 1, .int 3], .tuple [.int 1, .tuple [.tuple [.int 0], .tuple [.int 1]]], false),
  ([.int 2, .int 0], .tuple [.int 2, .tuple []], false),
  ([.int 2, .int 1], .tuple [.int 2, .tuple [.tuple [.int 0, .int 0]]], false),
  ([.int 2, .int 2], .tuple [.int 2, .tuple [.tuple [.int 0, .int 1]]], false),
  ([.int 2, .int 3], .tuple [.int 2, .tuple [.tuple [.int 0, .int 0], .tuple [.int 0, .int 1]]], false),
  ([.int 2, .int 4], .tuple [.int 2, .tuple [.tuple [.int 1, .int 0]]], false),
  ([.int 2, .int 5], .tuple [.int 2, .tuple [.tuple [.int 0, .int 0], .tuple [.int 1, .int 0]]], false),
  ([.int 2, .int 6], .tuple [.int 2, .tuple [.tuple [.int 0, .int 1], .tuple [.int 1, .int 0]]], false),
  ([.int 2, .int 7], .tuple [.int 2, .tuple [.tuple [.int 0, .int 0], .tuple [.int 0, .int 1], .tuple [.int 1, .int 0]]], false),
  ([.int 2, .int 8], .tuple [.int 2, .tuple [.tuple [.int 1, .int 1]]], false),
  ([.int 2, .int 9], .tuple [.int 2, .tuple [.tuple [.int 0, .int 0], .tuple [.int 1, .int 1]]], false),
  ([.int 2, .int 10], .tuple [.int 2, .tuple [.tuple [.int 0, .int 1], .tuple [.int 1, .int 1]]], false),
  ([.int 2, .int 11], .tuple [.int 2, .tuple [.tuple [.int 0, .int 0], .tuple [.int 0, .int 1], .tuple [.int 1, .int 1]]], false),
  ([.int 2, .int 12], .tuple [.int 2, .tuple [.tuple [.int 1, .int 0], .tuple [.int 1, .int 1]]], false),
  ([.int 2, .int 13], .tuple [.int 2, .tuple [.tuple [.int 0, .int 0], .tuple [.int 1, .int 0], .tuple [.int 1, .int 1]]], false),
  ([.int 2, .int 14], .tuple [.int 2, .tuple [.tuple [.int 0, .int 1], .tuple [.int 1, .int 0], .tuple [.int 1, .int 1]]], false),
  ([.int 2, .int 15], .tuple [.int 2, .tuple [.tuple [.int 0, .int 0], .tuple [.int 0, .int 1], .tuple [.int 1, .int 0], .tuple [.int 1, .int 1]]], false)]),
 ("need_rows", [([.tuple [], .int 0], .none, false),
  ([.tuple [.tuple []], .int 0], .none, false),
  ([.tuple [], .int 1], .none, false),
  ([.tuple [.tuple [.int 0]], .int 1], .none, false),
  ([.tuple [.tuple [.int 1]], .int 1], .none, false),
  ([.tuple [.tuple [.int 0], .tuple [.int 1]], .int 1], .none, false),
  ([.tuple [], .int 2], .none, false),
  ([.tuple [.tuple [.int 0, .int 0]], .int 2], .none, false),
  ([.tuple [.tuple [.int 0, .int 1]], .int 2], .none, false),
  ([.tuple [.tuple [.int 0, .int 0], .tuple [.int 0, .int 1]], .int 2], .none, false),
  ([.tuple [.tuple [.int 1, .int 0]], .int 2], .none, false),
  ([.tuple [.tuple [.int 0, .int 0], .tuple [.int 1, .int 0]], .int 2], .none, false),
  ([.tuple [.tuple [.int 0, .int 1], .tuple [.int 1, .int 0]], .int 2], .none, false),
  ([.tuple [.tuple [.int 0, .int 0], .tuple [.int 0, .int 1], .tuple [.int 1, .int 0]], .int 2], .none, false),
  ([.tuple [.tuple [.int 1, .int 1]], .int 2], .none, false),
  ([.tuple [.tuple [.int 0, .int 0], .tuple [.int 1, .int 1]], .int 2], .none, false),
  ([.tuple [.tuple [.int 0, .int 1], .tuple [.int 1, .int 1]], .int 2], .none, false),
  ([.tuple [.tuple [.int 0, .int 0], .tuple [.int 0, .int 1], .tuple [.int 1, .int 1]], .int 2], .none, false),
  ([.tuple [.tuple [.int 1, .int 0], .tuple [.int 1, .int 1]], .int 2], .none, false),
  ([.tuple [.tuple [.int 0, .int 0], .tuple [.int 1, .int 0], .tuple [.int 1, .int 1]], .int 2], .none, false),
  ([.tuple [.tuple [.int 0, .int 1], .tuple [.int 1, .int 0], .tuple [.int 1, .int 1]], .int 2], .none, false),
  ([.tuple [.tuple [.int 0, .int 0], .tuple [.int 0, .int 1], .tuple [.int 1, .int 0], .tuple [.int 1, .int 1]], .int 2], .none, false)]),
 ("mask_of_rows", [([.tuple []], .int 0, false),
  ([.tuple [.tuple []]], .int 1, false),
  ([.tuple []], .int 0, false),
  ([.tuple [.tuple [.int 0]]], .int 1, false),
  ([.tuple [.tuple [.int 1]]], .int 2, false),
  ([.tuple [.tuple [.int 0], .tuple [.int 1]]], .int 3, false),
  ([.tuple []], .int 0, false),
  ([.tuple [.tuple [.int 0, .int 0]]], .int 1, false),
  ([.tuple [.tuple [.int 0, .int 1]]], .int 2, false),
  ([.tuple [.tuple [.int 0, .int 0], .tuple [.int 0, .int 1]]], .int 3, false),
  ([.tuple [.tuple [.int 1, .int 0]]], .int 4, false),
  ([.tuple [.tuple [.int 0, .int 0], .tuple [.int 1, .int 0]]], .int 5, false),
  ([.tuple [.tuple [.int 0, .int 1], .tuple [.int 1, .int 0]]], .int 6, false),
  ([.tuple [.tuple [.int 0, .int 0], .tuple [.int 0, .int 1], .tuple [.int 1, .int 0]]], .int 7, false),
  ([.tuple [.tuple [.int 1, .int 1]]], .int 8, false),
  ([.tuple [.tuple [.int 0, .int 0], .tuple [.int 1, .int 1]]], .int 9, false),
  ([.tuple [.tuple [.int 0, .int 1], .tuple [.int 1, .int 1]]], .int 10, false),
  ([.tuple [.tuple [.int 0, .int 0], .tuple [.int 0, .int 1], .tuple [.int 1, .int 1]]], .int 11, false),
  ([.tuple [.tuple [.int 1, .int 0], .tuple [.int 1, .int 1]]], .int 12, false),
  ([.tuple [.tuple [.int 0, .int 0], .tuple [.int 1, .int 0], .tuple [.int 1, .int 1]]], .int 13, false),
  ([.tuple [.tuple [.int 0, .int 1], .tuple [.int 1, .int 0], .tuple [.int 1, .int 1]]], .int 14, false),
  ([.tuple [.tuple [.int 0, .int 0], .tuple [.int 0, .int 1], .tuple [.int 1, .int 0], .tuple [.int 1, .int 1]]], .int 15, false)]),
 ("need_kind", [([.str "all"], .none, false),
  ([.str "and2"], .none, false),
  ([.str "and2order"], .none, false),
  ([.str "and3"], .none, false),
  ([.str "and3order"], .none, false),
  ([.str "and4"], .none, false),
  ([.str "and4order"], .none, false),
  ([.str "joins"], .none, false),
  ([.str "meets"], .none, false),
  ([.str "or2"], .none, false),
  ([.str "or2order"], .none, false),
  ([.str "or3"], .none, false),
  ([.str "or3order"], .none, false),
  ([.str "or4"], .none, false),
  ([.str "or4order"], .none, false),
  ([.str "order"], .none, false),
  ([.str "pairs"], .none, false),
  ([.str "sums"], .none, false),
  ([.str "unlike"], .none, false),
  ([.str "values"], .none, false)])]
theorem E3_ok : chkT (kRun tab oD 7) E3 = true := by kernel_rfl
theorem o3_ok : OraOk tab PP (tabO E3) 19 := tab_ok oD_ok E3_ok
def oE : Ora := orO (tabO E3) oD
theorem oE_ok : OraOk tab PP oE 19 := or_ok o3_ok (oD_ok.up (by decide))
def allF (es : List Ent) : Bool := es.all fun e => chkE (kRun tab oE 6) "_law_list_right" e
end Wk
set_option autoImplicit false
set_option maxHeartbeats 200000
namespace Wk
open PySem Ty
/-! k92, the plain part 7 -/
def G0 : List Ent := [([.str "all", .int 0, .int 2], .bool true, false),
  ([.str "all", .int 1, .int 4], .bool true, false),
  ([.str "all", .int 2, .int 16], .bool true, false)]
def G1 : List Ent := [([.str "and2", .int 0, .int 2], .bool true, false),
  ([.str "and2", .int 1, .int 4], .bool true, false),
  ([.str "and2", .int 2, .int 12], .bool true, false)]
def G2 : List Ent := [([.str "and2order", .int 0, .int 2], .bool true, false),
  ([.str "and2order", .int 1, .int 4], .bool true, false),
  ([.str "and2order", .int 2, .int 14], .bool true, false)]
def G3 : List Ent := [([.str "and3", .int 0, .int 2], .bool true, false),
  ([.str "and3", .int 1, .int 4], .bool true, false),
  ([.str "and3", .int 2, .int 12], .bool true, false)]
def G4 : List Ent := [([.str "and3order", .int 0, .int 2], .bool true, false),
  ([.str "and3order", .int 1, .int 4], .bool true, false),
  ([.str "and3order", .int 2, .int 14], .bool true, false)]
def G5 : List Ent := [([.str "and4", .int 0, .int 2], .bool true, false),
  ([.str "and4", .int 1, .int 4], .bool true, false),
  ([.str "and4", .int 2, .int 12], .bool true, false)]
def G6 : List Ent := [([.str "and4order", .int 0, .int 2], .bool true, false),
  ([.str "and4order", .int 1, .int 4], .bool true, false),
  ([.str "and4order", .int 2, .int 14], .bool true, false)]
def G7 : List Ent := [([.str "joins", .int 0, .int 2], .bool true, false),
  ([.str "joins", .int 1, .int 4], .bool true, false),
  ([.str "joins", .int 2, .int 14], .bool true, false)]
def G8 : List Ent := [([.str "meets", .int 0, .int 2], .bool true, false),
  ([.str "meets", .int 1, .int 4], .bool true, false),
  ([.str "meets", .int 2, .int 14], .bool true, false)]
def G9 : List Ent := [([.str "or2", .int 0, .int 2], .bool true, false),
  ([.str "or2", .int 1, .int 4], .bool true, false),
  ([.str "or2", .int 2, .int 12], .bool true, false)]
def G10 : List Ent := [([.str "or2order", .int 0, .int 2], .bool true, false),
  ([.str "or2order", .int 1, .int 4], .bool true, false),
  ([.str "or2order", .int 2, .int 14], .bool true, false)]
def G11 : List Ent := [([.str "or3", .int 0, .int 2], .bool true, false),
  ([.str "or3", .int 1, .int 4], .bool true, false),
  ([.str "or3", .int 2, .int 12], .bool true, false)]
def G12 : List Ent := [([.str "or3order", .int 0, .int 2], .bool true, false),
  ([.str "or3order", .int 1, .int 4], .bool true, false),
  ([.str "or3order", .int 2, .int 14], .bool true, false)]
def G13 : List Ent := [([.str "or4", .int 0, .int 2], .bool true, false),
  ([.str "or4", .int 1, .int 4], .bool true, false),
  ([.str "or4", .int 2, .int 12], .bool true, false)]
def G14 : List Ent := [([.str "or4order", .int 0, .int 2], .bool true, false),
  ([.str "or4order", .int 1, .int 4], .bool true, false),
  ([.str "or4order", .int 2, .int 14], .bool true, false)]
def G15 : List Ent := [([.str "order", .int 0, .int 2], .bool true, false),
  ([.str "order", .int 1, .int 4], .bool true, false),
  ([.str "order", .int 2, .int 13], .bool true, false)]
def G16 : List Ent := [([.str "pairs", .int 0, .int 2], .bool true, false),
  ([.str "pairs", .int 1, .int 4], .bool true, false),
  ([.str "pairs", .int 2, .int 16], .bool true, false)]
def G17 : List Ent := [([.str "sums", .int 0, .int 2], .bool true, false),
  ([.str "sums", .int 1, .int 4], .bool true, false),
  ([.str "sums", .int 2, .int 12], .bool true, false)]
def G18 : List Ent := [([.str "unlike", .int 0, .int 2], .bool true, false),
  ([.str "unlike", .int 1, .int 4], .bool true, false),
  ([.str "unlike", .int 2, .int 12], .bool true, false)]
def G19 : List Ent := [([.str "values", .int 0, .int 2], .bool true, false),
  ([.str "values", .int 1, .int 4], .bool true, false),
  ([.str "values", .int 2, .int 11], .bool true, false)]
theorem G0_ok : allF G0 = true := by kernel_rfl
theorem G1_ok : allF G1 = true := by kernel_rfl
theorem G2_ok : allF G2 = true := by kernel_rfl
theorem G3_ok : allF G3 = true := by kernel_rfl
theorem G4_ok : allF G4 = true := by kernel_rfl
theorem G5_ok : allF G5 = true := by kernel_rfl
theorem G6_ok : allF G6 = true := by kernel_rfl
theorem G7_ok : allF G7 = true := by kernel_rfl
theorem G8_ok : allF G8 = true := by kernel_rfl
theorem G9_ok : allF G9 = true := by kernel_rfl
theorem G10_ok : allF G10 = true := by kernel_rfl
theorem G11_ok : allF G11 = true := by kernel_rfl
theorem G12_ok : allF G12 = true := by kernel_rfl
theorem G13_ok : allF G13 = true := by kernel_rfl
theorem G14_ok : allF G14 = true := by kernel_rfl
theorem G15_ok : allF G15 = true := by kernel_rfl
theorem G16_ok : allF G16 = true := by kernel_rfl
theorem G17_ok : allF G17 = true := by kernel_rfl
theorem G18_ok : allF G18 = true := by kernel_rfl
theorem G19_ok : allF G19 = true := by kernel_rfl
def Ga : List Ent := (G0 ++ G1 ++ G2 ++ G3 ++ G4) ++ (G5 ++ G6 ++ G7 ++ G8 ++ G9) ++ (G10 ++ G11 ++ G12 ++ G13 ++ G14) ++ (G15 ++ G16 ++ G17 ++ G18 ++ G19)
theorem Ga_ok (e : Ent) (h : e ∈ Ga) : chkE (kRun tab oE 6) "_law_list_right" e = true := by
  simp only [Ga, List.mem_append] at h
  rcases h with ((((((h | h) | h) | h) | h) | ((((h | h) | h) | h) | h)) | ((((h | h) | h) | h) | h)) | ((((h | h) | h) | h) | h)
  · exact List.all_eq_true.mp G0_ok e h
  · exact List.all_eq_true.mp G1_ok e h
  · exact List.all_eq_true.mp G2_ok e h
  · exact List.all_eq_true.mp G3_ok e h
  · exact List.all_eq_true.mp G4_ok e h
  · exact List.all_eq_true.mp G5_ok e h
  · exact List.all_eq_true.mp G6_ok e h
  · exact List.all_eq_true.mp G7_ok e h
  · exact List.all_eq_true.mp G8_ok e h
  · exact List.all_eq_true.mp G9_ok e h
  · exact List.all_eq_true.mp G10_ok e h
  · exact List.all_eq_true.mp G11_ok e h
  · exact List.all_eq_true.mp G12_ok e h
  · exact List.all_eq_true.mp G13_ok e h
  · exact List.all_eq_true.mp G14_ok e h
  · exact List.all_eq_true.mp G15_ok e h
  · exact List.all_eq_true.mp G16_ok e h
  · exact List.all_eq_true.mp G17_ok e h
  · exact List.all_eq_true.mp G18_ok e h
  · exact List.all_eq_true.mp G19_ok e h
def T4 : TabE := [("_law_list_right", Ga)]
theorem T4_ok : chkT (kRun tab oE 6) T4 = true := by
  show ((Ga.all fun e => chkE (kRun tab oE 6) "_law_list_right" e) && true) = true
  rw [List.all_eq_true.mpr Ga_ok]
  rfl
theorem o4_ok : OraOk tab PP (tabO T4) 25 := tab_ok oE_ok T4_ok
end Wk
set_option autoImplicit false
set_option maxHeartbeats 200000
/-! k92, the plain part 8: the draws. -/
namespace Wk
open PySem Ty
theorem prim2 {ρ : Ty.Env} {x y : B} {dx dy : D} {q : Prim} {r : R} (hx : fetch ρ x = some dx) (hy : fetch ρ y = some dy) (h : app q [dx, dy] = some r) : prim q [x, y] ρ = .ok r ρ := by
  unfold prim fetchAll fetchAll fetchAll
  rw [hx, hy]
  simp only
  rw [h]
theorem app_mod {i j : Int} (h : 0 < j) : app .mod [.int i, .int j] = some (.int (i % j), false) := by
  show (if decide (0 < j) = true then some (i % j) else none).map (fun k => (PyData.int k, false)) = _
  rw [if_pos (decide_eq_true h)]
  rfl
theorem app_fdiv {i j : Int} (h : 0 < j) (h2 : j < 1073741824) : app .fdiv [.int i, .int j] = some (.int (i / j), false) := by
  show (if (decide (0 < j) && decide (j < 1073741824)) = true then some (i / j) else none).map (fun k => (PyData.int k, false)) = _
  rw [if_pos (by rw [decide_eq_true h, decide_eq_true h2]; rfl)]
  rfl
theorem app_mul {i j : Int} (h : i.natAbs < 2 ^ 2000) (h2 : j.natAbs < 2 ^ 2000) : app .mul [.int i, .int j] = some (.int (i * j), false) := by
  show (if (small i || small j || (mid i && mid j)) = true then some (i * j) else none).map (fun k => (PyData.int k, false)) = _
  rw [if_pos (by unfold mid; rw [decide_eq_true h, decide_eq_true h2]; simp)]
  rfl
abbrev e0 (a b c n : Int) : Ty.Env := [some (.own true (.list [.int a, .int b, .int c])), some (.fro (.int n)), none, none]
abbrev drT : Ex := .prim .gt (.cons (.prim .idx (.cons (.var 0) (.cons (.con (.int 0)) .nil))) (.cons (.con (.int 0)) .nil))
theorem dr_test {Φ : Fns} (a b c n : Int) : kT (kv Φ drT) (e0 a b c n) = .ok (decide (0 < a)) (e0 a b c n) := rfl
theorem dr_pos {Φ : Fns} (a b c n : Int) (h : 0 < a) (h0 : 0 < n) (h1 : n < 1000) : kD Φ D__law_draw [.own true (.list [.int a, .int b, .int c]), .fro (.int n)] = .ok (.int (a % n), false) [.own true (.list [.int (a / n), .int b, .int c]), .fro (.int n)] := by
  have s1 : kx Φ (.asg (.nm 2) (.prim .mod (.cons (.prim (.bi "int") (.cons (.prim .idx (.cons (.var 0) (.cons (.con (.int 0)) .nil))) .nil)) (.cons (.var 1) .nil)))) (e0 a b c n) = .nx [some (.own true (.list [.int a, .int b, .int c])), some (.fro (.int n)), some (.fro (.int (a % n))), none] :=
    kx_asg (ρ1 := e0 a b c n) (kv_prim (ρ1 := e0 a b c n) (bs := [.val (.int a), .val (.int n)]) (by kernel_rfl) (prim2 rfl rfl (app_mod h0))) rfl
  have s2 : kx Φ (.put 0 (.con (.int 0)) (.prim .fdiv (.cons (.prim .idx (.cons (.var 0) (.cons (.con (.int 0)) .nil))) (.cons (.var 1) .nil)))) [some (.own true (.list [.int a, .int b, .int c])), some (.fro (.int n)), some (.fro (.int (a % n))), none] = .nx [some (.own true (.list [.int (a / n), .int b, .int c])), some (.fro (.int n)), some (.fro (.int (a % n))), none] :=
    kx_put (ρ1 := [some (.own true (.list [.int a, .int b, .int c])), some (.fro (.int n)), some (.fro (.int (a % n))), none]) (ρ2 := [some (.own true (.list [.int a, .int b, .int c])), some (.fro (.int n)), some (.fro (.int (a % n))), none]) (kv_prim (ρ1 := [some (.own true (.list [.int a, .int b, .int c])), some (.fro (.int n)), some (.fro (.int (a % n))), none]) (bs := [.val (.int a), .val (.int n)]) (by kernel_rfl) (prim2 rfl rfl (app_fdiv h0 (by omega)))) rfl rfl rfl
  have b1 := (kxs_nx (ss := .cons (.put 0 (.con (.int 0)) (.prim .fdiv (.cons (.prim .idx (.cons (.var 0) (.cons (.con (.int 0)) .nil))) (.cons (.var 1) .nil)))) (.cons (.ret (.var 2)) .nil)) s1).trans ((kxs_nx (ss := .cons (.ret (.var 2)) .nil) s2).trans (kxs_rt (kx_ret rfl)))
  have k1 : kx Φ (.ifs drT (.cons (.asg (.nm 2) (.prim .mod (.cons (.prim (.bi "int") (.cons (.prim .idx (.cons (.var 0) (.cons (.con (.int 0)) .nil))) .nil)) (.cons (.var 1) .nil)))) (.cons (.put 0 (.con (.int 0)) (.prim .fdiv (.cons (.prim .idx (.cons (.var 0) (.cons (.con (.int 0)) .nil))) (.cons (.var 1) .nil)))) (.cons (.ret (.var 2)) .nil))) .nil) (e0 a b c n) = .rt (.int (a % n), false) [some (.own true (.list [.int (a / n), .int b, .int c])), some (.fro (.int n)), some (.fro (.int (a % n))), none] := by
    rw [kx_if (dr_test a b c n), if_pos (decide_eq_true h)]
    exact b1
  exact (kD_rt rfl (kxs_rt k1)).trans rfl
theorem dr_neg {Φ : Fns} (a b c n : Int) (h : ¬ 0 < a) (hb0 : 0 ≤ b) (hb1 : b < 2 ^ 130) (hc0 : 0 ≤ c) (hc1 : c < 1000) (h0 : 0 < n) : ∃ v : Int, kD Φ D__law_draw [.own true (.list [.int a, .int b, .int c]), .fro (.int n)] = .ok (.int v, false) [.own true (.list [.int a, .int b, .int (c + 1)]), .fro (.int n)] ∧ 0 ≤ v ∧ v < n := by
  have t1 : kx Φ (.put 0 (.con (.int 2)) (.prim .add (.cons (.prim .idx (.cons (.var 0) (.cons (.con (.int 2)) .nil))) (.cons (.con (.int 1)) .nil)))) (e0 a b c n) = .nx (e0 a b (c + 1) n) := by kernel_rfl
  obtain ⟨s, hs⟩ : ∃ s : Int, s = 3 * b + 9576890767 * (c + 1) := ⟨_, rfl⟩
  have t2 : kx Φ (.asg (.nm 3) (.prim .add (.cons (.prim .mul (.cons (.con (.int 3)) (.cons (.prim .idx (.cons (.var 0) (.cons (.con (.int 1)) .nil))) .nil))) (.cons (.prim .mul (.cons (.con (.int 9576890767)) (.cons (.prim .idx (.cons (.var 0) (.cons (.con (.int 2)) .nil))) .nil))) .nil)))) (e0 a b (c + 1) n) = .nx [some (.own true (.list [.int a, .int b, .int (c + 1)])), some (.fro (.int n)), none, some (.fro (.int s))] := by
    rw [hs]; kernel_rfl
  have q1 : s.natAbs < 2 ^ 200 := by omega
  have p1 : (2 : Nat) ^ 200 < 2 ^ 2000 := Nat.pow_lt_pow_right (by decide) (by decide)
  have q2 : (s * s).natAbs < 2 ^ 2000 := by
    rw [Int.natAbs_mul]
    have z : s.natAbs * s.natAbs < 2 ^ 200 * 2 ^ 200 := Nat.mul_lt_mul'' q1 q1
    rw [← Nat.pow_add] at z
    exact Nat.lt_trans z (Nat.pow_lt_pow_right (by decide) (by decide))
  let ρ3 : Ty.Env := [some (.own true (.list [.int a, .int b, .int (c + 1)])), some (.fro (.int n)), none, some (.fro (.int s))]
  have m1 : kv Φ (.prim .mul (.cons (.var 3) (.cons (.var 3) .nil))) ρ3 = .ok (.int (s * s), false) ρ3 := kv_prim (ρ1 := ρ3) (ρ2 := ρ3) (bs := [.val (.int s), .val (.int s)]) (by kernel_rfl) (prim2 rfl rfl (app_mul (Nat.lt_trans q1 p1) (Nat.lt_trans q1 p1)))
  have m2 : kv Φ (.prim .mul (.cons (.prim .mul (.cons (.var 3) (.cons (.var 3) .nil))) (.cons (.var 3) .nil))) ρ3 = .ok (.int (s * s * s), false) ρ3 := kv_prim (ρ1 := ρ3) (ρ2 := ρ3) (kOs_cons (oOf_val m1) (show kOs Φ _ ρ3 = .ok [.val (.int s)] ρ3 by kernel_rfl)) (prim2 rfl rfl (app_mul q2 (Nat.lt_trans q1 p1)))
  have m3 : kv Φ (.prim .add (.cons (.prim .mul (.cons (.prim .mul (.cons (.var 3) (.cons (.var 3) .nil))) (.cons (.var 3) .nil))) (.cons (.prim .mul (.cons (.con (.int 86028121)) (.cons (.prim .idx (.cons (.var 0) (.cons (.con (.int 2)) .nil))) .nil))) .nil))) ρ3 = .ok (.int (s * s * s + 86028121 * (c + 1)), false) ρ3 :=
    kv_prim (ρ1 := ρ3) (ρ2 := ρ3) (kOs_cons (oOf_val m2) (show kOs Φ _ ρ3 = .ok [.val (.int (86028121 * (c + 1)))] ρ3 by kernel_rfl)) (by kernel_rfl)
  obtain ⟨s2, hs2⟩ : ∃ s2 : Int, s2 = (s * s * s + 86028121 * (c + 1)) % (10 ^ 41 + 37) := ⟨_, rfl⟩
  have r2 : 0 ≤ s2 ∧ s2 < 10 ^ 41 + 37 := by
    rw [hs2]
    exact (⟨Int.emod_nonneg _ (by decide), Int.emod_lt_of_pos _ (by decide)⟩)
  have t3 : kx Φ (.asg (.nm 3) (.prim .mod (.cons (.prim (.bi "int") (.cons (.prim .add (.cons (.prim .mul (.cons (.prim .mul (.cons (.var 3) (.cons (.var 3) .nil))) (.cons (.var 3) .nil))) (.cons (.prim .mul (.cons (.con (.int 86028121)) (.cons (.prim .idx (.cons (.var 0) (.cons (.con (.int 2)) .nil))) .nil))) .nil))) .nil)) (.cons (.prim .add (.cons (.prim .pow (.cons (.con (.int 10)) (.cons (.con (.int 41)) .nil))) (.cons (.con (.int 37)) .nil))) .nil)))) ρ3 = .nx [some (.own true (.list [.int a, .int b, .int (c + 1)])), some (.fro (.int n)), none, some (.fro (.int s2))] := by
    refine kx_asg (r := (.int s2, false)) (kv_prim (ρ1 := ρ3) (ρ2 := ρ3) (kOs_cons (oOf_val (r := (.int (s * s * s + 86028121 * (c + 1)), false)) (kv_prim (ρ1 := ρ3) (ρ2 := ρ3) (kOs_cons (oOf_val m3) rfl) (by kernel_rfl))) (show kOs Φ _ ρ3 = .ok [.val (.int (10 ^ 41 + 37))] ρ3 by kernel_rfl)) (prim2 (ρ := ρ3) rfl rfl ?_)) rfl
    rw [hs2]
    exact app_mod (by decide)
  let ρ4 : Ty.Env := [some (.own true (.list [.int a, .int b, .int (c + 1)])), some (.fro (.int n)), none, some (.fro (.int s2))]
  have q3 : s2.natAbs < 2 ^ 200 := by omega
  have m4 : kv Φ (.prim .mul (.cons (.var 3) (.cons (.var 3) .nil))) ρ4 = .ok (.int (s2 * s2), false) ρ4 := kv_prim (ρ1 := ρ4) (ρ2 := ρ4) (bs := [.val (.int s2), .val (.int s2)]) (by kernel_rfl) (prim2 rfl rfl (app_mul (Nat.lt_trans q3 p1) (Nat.lt_trans q3 p1)))
  obtain ⟨s3, hs3⟩ : ∃ s3 : Int, s3 = (s2 * s2 + 49979687) % (10 ^ 38 + 133) := ⟨_, rfl⟩
  have t4 : kx Φ (.asg (.nm 3) (.prim .mod (.cons (.prim (.bi "int") (.cons (.prim .add (.cons (.prim .mul (.cons (.var 3) (.cons (.var 3) .nil))) (.cons (.con (.int 49979687)) .nil))) .nil)) (.cons (.prim .add (.cons (.prim .pow (.cons (.con (.int 10)) (.cons (.con (.int 38)) .nil))) (.cons (.con (.int 133)) .nil))) .nil)))) ρ4 = .nx [some (.own true (.list [.int a, .int b, .int (c + 1)])), some (.fro (.int n)), none, some (.fro (.int s3))] := by
    refine kx_asg (r := (.int s3, false)) (kv_prim (ρ1 := ρ4) (ρ2 := ρ4) (kOs_cons (oOf_val (r := (.int (s2 * s2 + 49979687), false)) (kv_prim (ρ1 := ρ4) (ρ2 := ρ4) (kOs_cons (oOf_val (r := (.int (s2 * s2 + 49979687), false)) (kv_prim (ρ1 := ρ4) (ρ2 := ρ4) (kOs_cons (oOf_val m4) rfl) (by kernel_rfl))) rfl) (by kernel_rfl))) (show kOs Φ _ ρ4 = .ok [.val (.int (10 ^ 38 + 133))] ρ4 by kernel_rfl)) (prim2 (ρ := ρ4) rfl rfl ?_)) rfl
    rw [hs3]
    exact app_mod (by decide)
  let ρ5 : Ty.Env := [some (.own true (.list [.int a, .int b, .int (c + 1)])), some (.fro (.int n)), none, some (.fro (.int s3))]
  have t5 : kx Φ (.ret (.prim .mod (.cons (.prim (.bi "int") (.cons (.prim .fdiv (.cons (.var 3) (.cons (.prim .pow (.cons (.con (.int 10)) (.cons (.con (.int 7)) .nil))) .nil))) .nil)) (.cons (.var 1) .nil)))) ρ5 = .rt (.int (s3 / 10 ^ 7 % n), false) ρ5 :=
    kx_retV (kv_prim (ρ1 := ρ5) (ρ2 := ρ5) (bs := [.val (.int (s3 / 10 ^ 7)), .val (.int n)]) (by kernel_rfl) (prim2 (ρ := ρ5) rfl rfl (app_mod h0)))
  refine ⟨s3 / 10 ^ 7 % n, ?_, Int.emod_nonneg _ (by omega), Int.emod_lt_of_pos _ h0⟩
  refine (kD_rt (ρ := ρ5) rfl ?_).trans rfl
  refine (kxs_nx ((kx_if (dr_test a b c n)).trans ?_)).trans ((kxs_nx t1).trans ((kxs_nx t2).trans ((kxs_nx t3).trans ((kxs_nx t4).trans (kxs_rt t5)))))
  rw [if_neg (by rw [decide_eq_false h]; decide)]
  rfl
end Wk
set_option autoImplicit false
set_option maxHeartbeats 200000
/-! k92, the plain part 9: _law_right up to the draws. -/
namespace Wk
open PySem Ty
def KI : D := .list [.str "all", .str "and2", .str "and2order", .str "and3", .str "and3order", .str "and4", .str "and4order", .str "joins", .str "meets", .str "or2", .str "or2order", .str "or3", .str "or3order", .str "or4", .str "or4order", .str "order", .str "pairs", .str "sums", .str "unlike", .str "values"]
def TO0 : D := .tuple [.tuple [.str "all", .int 2], .tuple [.str "and2", .int 2], .tuple [.str "and2order", .int 2], .tuple [.str "and3", .int 2], .tuple [.str "and3order", .int 2], .tuple [.str "and4", .int 2], .tuple [.str "and4order", .int 2], .tuple [.str "joins", .int 2], .tuple [.str "meets", .int 2], .tuple [.str "or2", .int 2], .tuple [.str "or2order", .int 2], .tuple [.str "or3", .int 2], .tuple [.str "or3order", .int 2], .tuple [.str "or4", .int 2], .tuple [.str "or4order", .int 2], .tuple [.str "order", .int 2], .tuple [.str "pairs", .int 2], .tuple [.str "sums", .int 2], .tuple [.str "unlike", .int 2], .tuple [.str "values", .int 2]]
def TO1 : D := .tuple [.tuple [.str "all", .int 4], .tuple [.str "and2", .int 4], .tuple [.str "and2order", .int 4], .tuple [.str "and3", .int 4], .tuple [.str "and3order", .int 4], .tuple [.str "and4", .int 4], .tuple [.str "and4order", .int 4], .tuple [.str "joins", .int 4], .tuple [.str "meets", .int 4], .tuple [.str "or2", .int 4], .tuple [.str "or2order", .int 4], .tuple [.str "or3", .int 4], .tuple [.str "or3order", .int 4], .tuple [.str "or4", .int 4], .tuple [.str "or4order", .int 4], .tuple [.str "order", .int 4], .tuple [.str "pairs", .int 4], .tuple [.str "sums", .int 4], .tuple [.str "unlike", .int 4], .tuple [.str "values", .int 4]]
def TO2 : D := .tuple [.tuple [.str "all", .int 16], .tuple [.str "and2", .int 12], .tuple [.str "and2order", .int 14], .tuple [.str "and3", .int 12], .tuple [.str "and3order", .int 14], .tuple [.str "and4", .int 12], .tuple [.str "and4order", .int 14], .tuple [.str "joins", .int 14], .tuple [.str "meets", .int 14], .tuple [.str "or2", .int 12], .tuple [.str "or2order", .int 14], .tuple [.str "or3", .int 12], .tuple [.str "or3order", .int 14], .tuple [.str "or4", .int 12], .tuple [.str "or4order", .int 14], .tuple [.str "order", .int 13], .tuple [.str "pairs", .int 16], .tuple [.str "sums", .int 12], .tuple [.str "unlike", .int 12], .tuple [.str "values", .int 11]]
def last5 : Sl := .fro (.str "values")
abbrev R0 : Sm := (.asg (.nm 2) (.call "_law_kinds" .nil))
abbrev R1 : Sm := (.asg (.nm 3) (.prim (.bi "tuple") (.cons (.comp [5] (.nm 5) (.seq (.var 2)) .nil (.tup (.cons (.var 5) (.cons (.prim (.bi "len") (.cons (.call "_law_all_bits" (.val (.var 5) (.val (.var 1) .nil))) .nil)) .nil)))) .nil)))
abbrev R2 : Sm := (.asg (.nm 4) (.call "kind_sizes" (.val (.var 1) .nil)))
abbrev R3 : Sm := (.ifs (.prim .ne (.cons (.prim (.bi "repr") (.cons (.lst (.cons (.var 4) (.cons (.callK "kind_sizes" .nil (.val (.var 1) .nil) [0]) .nil))) .nil)) (.cons (.prim (.bi "repr") (.cons (.lst (.cons (.var 3) (.cons (.var 3) .nil))) .nil)) .nil))) (.cons (.ret (.con (.bool false))) .nil) .nil)
abbrev R4 : Sm := (.for (.tp [5, 6]) (.seq (.var 4)) (.cons (.ifs (.prim .ne (.cons (.comp [9, 10] (.tp [9, 10]) (.seq (.var 4)) (.cons (.and (.call "_law_lies" (.val (.var 5) (.val (.var 9) .nil))) (.prim .gt (.cons (.var 6) (.cons (.var 10) .nil)))) .nil) (.con (.int 1))) (.cons (.lst .nil) .nil))) (.cons (.ret (.con (.bool false))) .nil) .nil) .nil))
abbrev R5 : Sm := (.ifs (.prim .gt (.cons (.var 1) (.cons (.con (.int 2)) .nil))) (.cons (.ret (.con (.bool true))) .nil) .nil)
abbrev R6 : Sm := (.for (.nm 7) (.rng1 (.con (.int 4))) (.cons (.asg (.nm 8) (.call "_law_draw" (.ref 0 (.val (.prim (.bi "len") (.cons (.var 2) .nil)) .nil)))) (.cons (.ifs (.not (.call "_law_list_right" (.val (.prim .idx (.cons (.var 2) (.cons (.var 8) .nil))) (.val (.var 1) (.val (.prim .idx (.cons (.prim .idx (.cons (.var 4) (.cons (.var 8) .nil))) (.cons (.con (.int 1)) .nil))) .nil))))) (.cons (.ret (.con (.bool false))) .nil) .nil) .nil)))
abbrev R7 : Sm := (.ret (.con (.bool true)))
theorem r0_0 (d : D) : kx (kRun tab oE 6) R0 [some (.own true d), some (.fro (I 0)), none, none, none, none, none, none, none, none, none] = .nx [some (.own true d), some (.fro (I 0)), some (.own false KI), none, none, none, none, none, none, none, none] := by kernel_rfl
theorem r0_1 (d : D) : kx (kRun tab oE 6) R1 [some (.own true d), some (.fro (I 0)), some (.own false KI), none, none, none, none, none, none, none, none] = .nx [some (.own true d), some (.fro (I 0)), some (.fro KI), some (.fro TO0), none, none, none, none, none, none, none] := by kernel_rfl
theorem r0_2 (d : D) : kx (kRun tab oE 6) R2 [some (.own true d), some (.fro (I 0)), some (.fro KI), some (.fro TO0), none, none, none, none, none, none, none] = .nx [some (.own true d), some (.fro (I 0)), some (.fro KI), some (.fro TO0), some (.fro TO0), none, none, none, none, none, none] := by kernel_rfl
theorem r0_3 (d : D) : kx (kRun tab oE 6) R3 [some (.own true d), some (.fro (I 0)), some (.fro KI), some (.fro TO0), some (.fro TO0), none, none, none, none, none, none] = .nx [some (.own true d), some (.fro (I 0)), some (.fro KI), some (.fro TO0), some (.fro TO0), none, none, none, none, none, none] := by kernel_rfl
theorem r0_4 (d : D) : kx (kRun tab oE 6) R4 [some (.own true d), some (.fro (I 0)), some (.fro KI), some (.fro TO0), some (.fro TO0), none, none, none, none, none, none] = .nx [some (.own true d), some (.fro (I 0)), some (.fro KI), some (.fro TO0), some (.fro TO0), some last5, some (.fro (I 2)), none, none, none, none] := by kernel_rfl
theorem r0_5 (d : D) : kx (kRun tab oE 6) R5 [some (.own true d), some (.fro (I 0)), some (.fro KI), some (.fro TO0), some (.fro TO0), some last5, some (.fro (I 2)), none, none, none, none] = .nx [some (.own true d), some (.fro (I 0)), some (.fro KI), some (.fro TO0), some (.fro TO0), some last5, some (.fro (I 2)), none, none, none, none] := by kernel_rfl
theorem r1_0 (d : D) : kx (kRun tab oE 6) R0 [some (.own true d), some (.fro (I 1)), none, none, none, none, none, none, none, none, none] = .nx [some (.own true d), some (.fro (I 1)), some (.own false KI), none, none, none, none, none, none, none, none] := by kernel_rfl
theorem r1_1 (d : D) : kx (kRun tab oE 6) R1 [some (.own true d), some (.fro (I 1)), some (.own false KI), none, none, none, none, none, none, none, none] = .nx [some (.own true d), some (.fro (I 1)), some (.fro KI), some (.fro TO1), none, none, none, none, none, none, none] := by kernel_rfl
theorem r1_2 (d : D) : kx (kRun tab oE 6) R2 [some (.own true d), some (.fro (I 1)), some (.fro KI), some (.fro TO1), none, none, none, none, none, none, none] = .nx [some (.own true d), some (.fro (I 1)), some (.fro KI), some (.fro TO1), some (.fro TO1), none, none, none, none, none, none] := by kernel_rfl
theorem r1_3 (d : D) : kx (kRun tab oE 6) R3 [some (.own true d), some (.fro (I 1)), some (.fro KI), some (.fro TO1), some (.fro TO1), none, none, none, none, none, none] = .nx [some (.own true d), some (.fro (I 1)), some (.fro KI), some (.fro TO1), some (.fro TO1), none, none, none, none, none, none] := by kernel_rfl
theorem r1_4 (d : D) : kx (kRun tab oE 6) R4 [some (.own true d), some (.fro (I 1)), some (.fro KI), some (.fro TO1), some (.fro TO1), none, none, none, none, none, none] = .nx [some (.own true d), some (.fro (I 1)), some (.fro KI), some (.fro TO1), some (.fro TO1), some last5, some (.fro (I 4)), none, none, none, none] := by kernel_rfl
theorem r1_5 (d : D) : kx (kRun tab oE 6) R5 [some (.own true d), some (.fro (I 1)), some (.fro KI), some (.fro TO1), some (.fro TO1), some last5, some (.fro (I 4)), none, none, none, none] = .nx [some (.own true d), some (.fro (I 1)), some (.fro KI), some (.fro TO1), some (.fro TO1), some last5, some (.fro (I 4)), none, none, none, none] := by kernel_rfl
theorem r2_0 (d : D) : kx (kRun tab oE 6) R0 [some (.own true d), some (.fro (I 2)), none, none, none, none, none, none, none, none, none] = .nx [some (.own true d), some (.fro (I 2)), some (.own false KI), none, none, none, none, none, none, none, none] := by kernel_rfl
theorem r2_1 (d : D) : kx (kRun tab oE 6) R1 [some (.own true d), some (.fro (I 2)), some (.own false KI), none, none, none, none, none, none, none, none] = .nx [some (.own true d), some (.fro (I 2)), some (.fro KI), some (.fro TO2), none, none, none, none, none, none, none] := by kernel_rfl
theorem r2_2 (d : D) : kx (kRun tab oE 6) R2 [some (.own true d), some (.fro (I 2)), some (.fro KI), some (.fro TO2), none, none, none, none, none, none, none] = .nx [some (.own true d), some (.fro (I 2)), some (.fro KI), some (.fro TO2), some (.fro TO2), none, none, none, none, none, none] := by kernel_rfl
theorem r2_3 (d : D) : kx (kRun tab oE 6) R3 [some (.own true d), some (.fro (I 2)), some (.fro KI), some (.fro TO2), some (.fro TO2), none, none, none, none, none, none] = .nx [some (.own true d), some (.fro (I 2)), some (.fro KI), some (.fro TO2), some (.fro TO2), none, none, none, none, none, none] := by kernel_rfl
theorem r2_4 (d : D) : kx (kRun tab oE 6) R4 [some (.own true d), some (.fro (I 2)), some (.fro KI), some (.fro TO2), some (.fro TO2), none, none, none, none, none, none] = .nx [some (.own true d), some (.fro (I 2)), some (.fro KI), some (.fro TO2), some (.fro TO2), some last5, some (.fro (I 11)), none, none, none, none] := by kernel_rfl
theorem r2_5 (d : D) : kx (kRun tab oE 6) R5 [some (.own true d), some (.fro (I 2)), some (.fro KI), some (.fro TO2), some (.fro TO2), some last5, some (.fro (I 11)), none, none, none, none] = .nx [some (.own true d), some (.fro (I 2)), some (.fro KI), some (.fro TO2), some (.fro TO2), some last5, some (.fro (I 11)), none, none, none, none] := by kernel_rfl
theorem right3 (d : D) : kD (kRun tab oE 6) D__law_right [.own true d, .fro (I 3)] = .ok (.bool true, false) [.own true d, .fro (I 3)] := by kernel_rfl
end Wk
set_option autoImplicit false
set_option maxHeartbeats 200000
/-! k92, the plain part 10: the law. -/
namespace Wk
open PySem Ty
section
variable {O : Ora} {k0 k j : Nat} {s : Sm} {ρ ρ' : Ty.Env}
theorem fle_tr {A B C : Fns} (h : FLe A B) (g : FLe B C) : FLe A C := fun f ss r ps e => g f ss r ps (h f ss r ps e)
theorem run_le (h : k ≤ j) : FLe (Ty.run tab PP k) (Ty.run tab PP j) := fun f ss r ps e => by
  obtain ⟨m, rfl⟩ := Nat.le.dest h
  exact run_more e m
theorem up_kx (hO : OraOk tab PP O k0) (h : kx (kRun tab O k) s ρ = .nx ρ') (hj : k + k0 ≤ j) : kx (Ty.run tab PP j) s ρ = .nx ρ' := by
  have a := kx_le (P := PP) (fle_tr (kRun_le hO k) (run_le hj)) s ρ _ h (by simp)
  exact ex_le (P := PP) (fun _ _ _ _ z => z) s ρ _ a (by simp)
theorem up_kD {d : Df} {ss ps : List Sl} {r : R} (hO : OraOk tab PP O k0) (h : kD (kRun tab O k) d ss = .ok r ps) (hj : k + k0 ≤ j) : kD (Ty.run tab PP j) d ss = .ok r ps :=
  Dk_le (P := PP) (fun _ _ _ _ z => z) d ss r ps (kD_le (P := PP) (fle_tr (kRun_le hO k) (run_le hj)) d ss r ps h)
end
/-! ### the pot -/
def Pot (m : Nat) (d : D) : Prop := ∃ a b c : Int, d = .list [.int a, .int b, .int c] ∧ 0 ≤ b ∧ b < 2 ^ 130 ∧ 0 ≤ c ∧ c + m < 1000
theorem k_draw {Φ : Fns} {m : Nat} {d : D} (h : Pot (m + 1) d) (n : Nat) (h0 : 0 < n) (h1 : n < 1000) : ∃ (v : Nat) (d' : D), kD Φ D__law_draw [.own true d, .fro (I n)] = .ok (I v, false) [.own true d', .fro (I n)] ∧ v < n ∧ Pot m d' := by
  obtain ⟨a, b, c, rfl, hb0, hb1, hc0, hc1⟩ := h
  by_cases ha : 0 < a
  · have e0 : 0 ≤ a % (n : Int) := Int.emod_nonneg _ (by omega)
    have e1 : a % (n : Int) < n := Int.emod_lt_of_pos _ (by omega)
    refine ⟨(a % (n : Int)).toNat, .list [.int (a / (n : Int)), .int b, .int c], ?_, by omega, a / (n : Int), b, c, rfl, hb0, hb1, hc0, by omega⟩
    · have z := dr_pos (Φ := Φ) a b c n ha (by omega) (by omega)
      rw [z]
      show FOut.ok (PyData.int (a % n), false) _ = .ok (PyData.int ((a % (n : Int)).toNat : Int), false) _
      rw [Int.toNat_of_nonneg e0]
  · obtain ⟨v, z, e0, e1⟩ := dr_neg (Φ := Φ) a b c n ha hb0 hb1 hc0 (by omega) (by omega)
    refine ⟨v.toNat, .list [.int a, .int b, .int (c + 1)], ?_, by omega, a, b, c + 1, rfl, hb0, hb1, by omega, by omega⟩
    rw [z]
    show FOut.ok (PyData.int v, false) _ = .ok (PyData.int (v.toNat : Int), false) _
    rw [Int.toNat_of_nonneg e0]
theorem draw_run {j m : Nat} {d : D} (h : Pot (m + 1) d) (n : Nat) (h0 : 0 < n) (h1 : n < 1000) : ∃ (v : Nat) (d' : D), Ty.run tab PP (j + 1) "_law_draw" [.own true d, .fro (I n)] = .ok (I v, false) [.own true d', .fro (I n)] ∧ v < n ∧ Pot m d' := by
  obtain ⟨v, d', e, a, b⟩ := k_draw (Φ := Ty.run tab PP j) h n h0 h1
  exact ⟨v, d', run_of (d := D__law_draw) rfl e, a, b⟩
/-! ### what is asked of a kind -/
def TOp (p : Nat) : D := match p with
  | 0 => TO0
  | 1 => TO1
  | _ => TO2
def lrB (p at_ : Nat) : Bool := match app .idx [KI, I at_], app .idx [TOp p, I at_] with
  | some (kd, false), some (row, false) => (match app .idx [row, I 1] with
    | some (sz, false) => (match Ga[3 * at_ + p]? with
      | some e => sameL e.1 [kd, I p, sz] && (sameD e.2.1 (.bool true) && !e.2.2)
      | none => false)
    | _ => false)
  | _, _ => false
theorem lr_all : ((List.range 3).all fun p => (List.range 20).all fun a => lrB p a) = true := by kernel_rfl
theorem lr_run {j : Nat} (hj : 25 ≤ j) (e : Ent) (h : e ∈ Ga) : Ty.run tab PP j "_law_list_right" (e.1.map .fro) = .ok e.2 (e.1.map .fro) :=
  run_le hj _ _ _ _ (kRun_le oE_ok 6 _ _ _ _ (chk_ok (Ga_ok e h)))
theorem lr_at {j p a : Nat} (hj : 25 ≤ j) (hp : p < 3) (ha : a < 20) : ∃ kd row sz : D, app .idx [KI, I a] = some (kd, false) ∧ app .idx [TOp p, I a] = some (row, false) ∧ app .idx [row, I 1] = some (sz, false) ∧
    Ty.run tab PP j "_law_list_right" [.fro kd, .fro (I p), .fro sz] = .ok (.bool true, false) [.fro kd, .fro (I p), .fro sz] := by
  have z := List.all_eq_true.mp (List.all_eq_true.mp lr_all p (List.mem_range.mpr hp)) a (List.mem_range.mpr ha)
  unfold lrB at z
  split at z
  · rename_i kd row q1 q2
    split at z
    · rename_i sz q3
      split at z
      · rename_i e q4
        obtain ⟨z1, z2⟩ := Bool.and_eq_true_iff.mp z
        obtain ⟨z3, z4⟩ := Bool.and_eq_true_iff.mp z2
        obtain ⟨l, d, nw⟩ := e
        have e1 : l = [kd, I p, sz] := same_eqL _ _ z1
        have e2 : d = .bool true := same_eq _ _ z3
        have e3 : nw = false := by
          cases nw
          · rfl
          · cases z4
        subst e1 e2 e3
        exact ⟨kd, row, sz, q1, q2, q3, lr_run hj _ (List.mem_of_getElem? q4)⟩
      · cases z
    · cases z
  · cases z
abbrev e6 (d : D) (p : Nat) (s5 s6 x7 x8 : Option Sl) : Ty.Env := [some (.own true d), some (.fro (I p)), some (.fro KI), some (.fro (TOp p)), some (.fro (TOp p)), s5, s6, x7, x8, none, none]
abbrev b6a : Sm := .asg (.nm 8) (.call "_law_draw" (.ref 0 (.val (.prim (.bi "len") (.cons (.var 2) .nil)) .nil)))
abbrev b6b : Sm := .ifs (.not (.call "_law_list_right" (.val (.prim .idx (.cons (.var 2) (.cons (.var 8) .nil))) (.val (.var 1) (.val (.prim .idx (.cons (.prim .idx (.cons (.var 4) (.cons (.var 8) .nil))) (.cons (.con (.int 1)) .nil))) .nil))))) (.cons (.ret (.con (.bool false))) .nil) .nil
theorem kA_val {Φ : Fns} {e : Ex} {as : Ars} {ρ ρ1 ρ2 : Ty.Env} {r : R} {xs : List Ty.Arg} (h : kv Φ e ρ = .ok r ρ1) (h2 : kA Φ as ρ1 = .ok xs ρ2) : kA Φ (.val e as) ρ = .ok (.val r.1 :: xs) ρ2 := by
  show bnd (kv Φ e) (fun r => bnd (kA Φ as) fun xs => Ty.ret (Ty.Arg.val r.1 :: xs)) ρ = _
  rw [bnd_at h, bnd_at h2]
  rfl
theorem right_turn {j m : Nat} (hj : 25 ≤ j) {d : D} (h : Pot (m + 1) d) {p : Nat} (hp : p < 3) (s5 s6 : Option Sl) (x7 : Sl) (x8 : Option D) : ∃ (v : Nat) (d' : D), kxs (Ty.run tab PP (j + 1)) (.cons b6a (.cons b6b .nil)) (e6 d p s5 s6 (some x7) (x8.map .fro)) = .nx (e6 d' p s5 s6 (some x7) (some (.fro (I v)))) ∧ Pot m d' := by
  obtain ⟨v, d', hd, hv, hP⟩ := draw_run (j := j) h 20 (by decide) (by decide)
  obtain ⟨kd, row, sz, q1, q2, q3, q4⟩ := lr_at (j := j + 1) (by omega) hp hv
  refine ⟨v, d', ?_, hP⟩
  have a : kx (Ty.run tab PP (j + 1)) b6a (e6 d p s5 s6 (some x7) (x8.map .fro)) = .nx (e6 d' p s5 s6 (some x7) (some (.fro (I v)))) := by
    refine kx_asg (r := (I v, false)) (ρ1 := e6 d' p s5 s6 (some x7) (x8.map .fro)) ?_ (by cases x8 <;> rfl)
    show bnd (kA _ _) (callF _ _) _ = _
    have ka : kA (Ty.run tab PP (j + 1)) (.ref 0 (.val (.prim (.bi "len") (.cons (.var 2) .nil)) .nil)) (e6 d p s5 s6 (some x7) (x8.map .fro)) = .ok [.ref 0, .val (I 20)] (e6 d p s5 s6 (some x7) (x8.map .fro)) := by kernel_rfl
    rw [bnd_at ka]
    show (match Ty.run tab PP (j + 1) "_law_draw" [.own true d, .fro (I 20)] with
      | .ok r ps => (match backArgs [.ref 0, .val (I 20)] ps (e6 d p s5 s6 (some x7) (x8.map .fro)) with
        | some ρ' => Out.ok r ρ'
        | none => .bad)
      | .bad => .bad) = _
    rw [hd]
    rfl
  have i1 : kv (Ty.run tab PP (j + 1)) (.prim .idx (.cons (.var 2) (.cons (.var 8) .nil))) (e6 d' p s5 s6 (some x7) (some (.fro (I v)))) = .ok (kd, false) (e6 d' p s5 s6 (some x7) (some (.fro (I v)))) :=
    kv_prim (bs := [.val KI, .val (I v)]) rfl (prim2 rfl rfl q1)
  have i2 : kv (Ty.run tab PP (j + 1)) (.prim .idx (.cons (.var 4) (.cons (.var 8) .nil))) (e6 d' p s5 s6 (some x7) (some (.fro (I v)))) = .ok (row, false) (e6 d' p s5 s6 (some x7) (some (.fro (I v)))) :=
    kv_prim (bs := [.val (TOp p), .val (I v)]) rfl (prim2 rfl rfl q2)
  have i3 : kv (Ty.run tab PP (j + 1)) (.prim .idx (.cons (.prim .idx (.cons (.var 4) (.cons (.var 8) .nil))) (.cons (.con (.int 1)) .nil))) (e6 d' p s5 s6 (some x7) (some (.fro (I v)))) = .ok (sz, false) (e6 d' p s5 s6 (some x7) (some (.fro (I v)))) :=
    kv_prim (kOs_cons (oOf_val i2) (show kOs _ _ (e6 d' p s5 s6 (some x7) (some (.fro (I v)))) = .ok [.val (I 1)] (e6 d' p s5 s6 (some x7) (some (.fro (I v)))) from rfl)) (prim2 rfl rfl q3)
  have c := kv_call (Φ := Ty.run tab PP (j + 1)) (f := "_law_list_right") (as := .val (.prim .idx (.cons (.var 2) (.cons (.var 8) .nil))) (.val (.var 1) (.val (.prim .idx (.cons (.prim .idx (.cons (.var 4) (.cons (.var 8) .nil))) (.cons (.con (.int 1)) .nil))) .nil))) [kd, I p, sz] (kA_val i1 (kA_val (r := (I p, false)) rfl (kA_val i3 rfl))) q4
  have b : kx (Ty.run tab PP (j + 1)) b6b (e6 d' p s5 s6 (some x7) (some (.fro (I v)))) = .nx (e6 d' p s5 s6 (some x7) (some (.fro (I v)))) := by
    refine (kx_if (k := false) ?_).trans rfl
    refine kT_of (nw := false) ?_
    show bnd (kv _ (.call "_law_list_right" _)) _ _ = _
    rw [bnd_at c]
    rfl
  exact (kxs_nx a).trans ((kxs_nx b).trans kxs_nil)
theorem right_loop {j : Nat} (hj : 25 ≤ j) {p : Nat} (hp : p < 3) (s5 s6 : Option Sl) : ∀ (xs : List D) (m : Nat) (d : D) (x7 x8 : Option D), Pot (m + xs.length) d → ∃ (d' : D) (y7 y8 : Option D), forL (.nm 7) (kxs (Ty.run tab PP (j + 1)) (.cons b6a (.cons b6b .nil))) xs (e6 d p s5 s6 (x7.map .fro) (x8.map .fro)) = .nx (e6 d' p s5 s6 (y7.map .fro) (y8.map .fro)) ∧ Pot m d'
  | [], m, d, x7, x8, h => ⟨d, x7, x8, rfl, h⟩
  | x :: xs, m, d, x7, x8, h => by
    have h' : Pot ((m + xs.length) + 1) d := by
      rw [List.length_cons, ← Nat.add_assoc] at h
      exact h
    obtain ⟨v, d1, e, hP⟩ := right_turn hj h' hp s5 s6 (.fro x) x8
    obtain ⟨d', y7, y8, e2, hP2⟩ := right_loop hj hp s5 s6 xs m d1 (some x) (some (I v)) hP
    exact ⟨d', y7, y8, (forL_nx (ρ1 := e6 d p s5 s6 (some (.fro x)) (x8.map .fro)) (by cases x7 <;> rfl) e).trans e2, hP2⟩
theorem k_right {j m p : Nat} (hj : 25 ≤ j) (hp : p ≤ 3) {d : D} (h : Pot (m + 4) d) : ∃ d' : D, kD (Ty.run tab PP (j + 1)) D__law_right [.own true d, .fro (I p)] = .ok (.bool true, false) [.own true d', .fro (I p)] ∧ Pot m d' := by
  have tail : ∀ (p : Nat), p < 3 → ∀ (s5 s6 : Option Sl), ∃ d' : D, ∃ ρ', kxs (Ty.run tab PP (j + 1)) (.cons R6 (.cons R7 .nil)) (e6 d p s5 s6 none none) = .rt (.bool true, false) ρ' ∧ parO 2 ρ' = [.own true d', .fro (I p)] ∧ Pot m d' := fun p hp s5 s6 => by
    obtain ⟨d', y7, y8, e, hP⟩ := right_loop hj hp s5 s6 (rangeD 0 4) m d none none h
    exact ⟨d', _, (kxs_nx ((kx_for (show kI _ (.rng1 (.con (.int 4))) _ = .ok (rangeD 0 4) _ from rfl)).trans e)).trans (kxs_rt (kx_retV rfl)), rfl, hP⟩
  have : p = 0 ∨ p = 1 ∨ p = 2 ∨ p = 3 := by omega
  rcases this with rfl | rfl | rfl | rfl
  · obtain ⟨d', ρ', e, e2, hP⟩ := tail 0 (by decide) (some last5) (some (.fro (I 2)))
    exact ⟨d', (kD_rt rfl ((kxs_nx (up_kx oE_ok (r0_0 d) (by omega))).trans ((kxs_nx (up_kx oE_ok (r0_1 d) (by omega))).trans ((kxs_nx (up_kx oE_ok (r0_2 d) (by omega))).trans ((kxs_nx (up_kx oE_ok (r0_3 d) (by omega))).trans ((kxs_nx (up_kx oE_ok (r0_4 d) (by omega))).trans ((kxs_nx (up_kx oE_ok (r0_5 d) (by omega))).trans e))))))).trans (congrArg _ e2), hP⟩
  · obtain ⟨d', ρ', e, e2, hP⟩ := tail 1 (by decide) (some last5) (some (.fro (I 4)))
    exact ⟨d', (kD_rt rfl ((kxs_nx (up_kx oE_ok (r1_0 d) (by omega))).trans ((kxs_nx (up_kx oE_ok (r1_1 d) (by omega))).trans ((kxs_nx (up_kx oE_ok (r1_2 d) (by omega))).trans ((kxs_nx (up_kx oE_ok (r1_3 d) (by omega))).trans ((kxs_nx (up_kx oE_ok (r1_4 d) (by omega))).trans ((kxs_nx (up_kx oE_ok (r1_5 d) (by omega))).trans e))))))).trans (congrArg _ e2), hP⟩
  · obtain ⟨d', ρ', e, e2, hP⟩ := tail 2 (by decide) (some last5) (some (.fro (I 11)))
    exact ⟨d', (kD_rt rfl ((kxs_nx (up_kx oE_ok (r2_0 d) (by omega))).trans ((kxs_nx (up_kx oE_ok (r2_1 d) (by omega))).trans ((kxs_nx (up_kx oE_ok (r2_2 d) (by omega))).trans ((kxs_nx (up_kx oE_ok (r2_3 d) (by omega))).trans ((kxs_nx (up_kx oE_ok (r2_4 d) (by omega))).trans ((kxs_nx (up_kx oE_ok (r2_5 d) (by omega))).trans e))))))).trans (congrArg _ e2), hP⟩
  · obtain ⟨a, b, c, rfl, h1, h2, h3, h4⟩ := h
    exact ⟨_, up_kD oE_ok (right3 _) (by omega), a, b, c, rfl, h1, h2, h3, by omega⟩
end Wk
set_option autoImplicit false
set_option maxHeartbeats 200000
/-! k92, the plain part 11: the law. -/
namespace Wk
open PySem Ty
theorem app_mulR {i j : Int} (h : small j = true) : app .mul [.int i, .int j] = some (.int (i * j), false) := by
  show (if (small i || small j || (mid i && mid j)) = true then some (i * j) else none).map (fun k => (PyData.int k, false)) = _
  rw [h, if_pos (by simp)]
  rfl
theorem ints_map : ∀ l : List Int, intsOf (l.map PyData.int) = some l
  | [] => rfl
  | x :: l => by
    show (intsOf (l.map PyData.int)).map (x :: ·) = _
    rw [ints_map l]
    rfl
theorem app_ix {xs : List D} {k : Nat} (h : k < xs.length) : app .idx [.list xs, I k] = some (xs[k], false) := by
  show ((ixNat xs.length (k : Int)).bind fun j => xs[j]?.map fun d => (d, false)) = _
  have e : ixNat xs.length (k : Int) = some k := by
    unfold ixNat
    rw [(if_pos (by omega)), if_pos (by omega)]
    rfl
  rw [e]
  show xs[k]?.map (fun d => (d, false)) = _
  rw [List.getElem?_eq_getElem h]
  rfl
abbrev pe (L : D) (k : Nat) (x : Option Sl) : Ty.Env := [some (.fro L), some (.fro (I k)), x]
abbrev ptS : Sm := .asg (.nm 2) (.ife (.prim .lt (.cons (.var 1) (.cons (.prim (.bi "len") (.cons (.var 0) .nil)) .nil))) (.prim .idx (.cons (.var 0) (.cons (.var 1) .nil))) (.prim .add (.cons (.prim .mul (.cons (.con (.int 43)) (.cons (.prim (.bi "sum") (.cons (.prim (.sl false true) (.cons (.var 0) (.cons (.con (.int 3)) .nil))) .nil)) .nil))) (.cons (.prim .mul (.cons (.con (.int 971)) (.cons (.prim .add (.cons (.var 1) (.cons (.con (.int 1)) .nil))) .nil))) .nil))))
theorem pt_cell {Φ : Fns} (ns : List Int) (k : Nat) : ∃ cell : Int, kx Φ ptS (pe (.list (ns.map .int)) k none) = .nx (pe (.list (ns.map .int)) k (some (.fro (.int cell)))) := by
  let L : D := .list (ns.map .int)
  have t : kv Φ (.prim .lt (.cons (.var 1) (.cons (.prim (.bi "len") (.cons (.var 0) .nil)) .nil))) (pe L k none) = .ok (.bool (decide ((k : Int) < (((ns.map PyData.int).length : Nat) : Int))), false) (pe L k none) := by kernel_rfl
  by_cases h : k < ns.length
  · have hk : k < (ns.map PyData.int).length := by rw [List.length_map]; exact h
    refine ⟨ns[k], kx_asg (r := (.int ns[k], false)) (ρ1 := pe L k none) ?_ rfl⟩
    show bnd (kv Φ _) _ (pe L k none) = _
    rw [bnd_at t]
    have e : decide ((k : Int) < (((ns.map PyData.int).length : Nat) : Int)) = true := decide_eq_true (by omega)
    rw [e]
    have z := kv_prim (Φ := Φ) (q := .idx) (es := .cons (.var 0) (.cons (.var 1) .nil)) (ρ := pe L k none) (ρ1 := pe L k none) (ρ2 := pe L k none) (bs := [.val L, .val (I k)]) rfl (prim2 rfl rfl (app_ix hk))
    rw [List.getElem_map] at z
    exact z
  · refine ⟨43 * ((((ns.drop (HT.sIx (ns.map PyData.int).length 0 none)).take (HT.sIx (ns.map PyData.int).length (ns.map PyData.int).length (some 3) - HT.sIx (ns.map PyData.int).length 0 none)).sum : Int)) + 971 * ((k : Int) + 1), kx_asg (r := (.int _, false)) (ρ1 := pe L k none) ?_ rfl⟩
    show bnd (kv Φ _) _ (pe L k none) = _
    rw [bnd_at t]
    have e : decide ((k : Int) < (((ns.map PyData.int).length : Nat) : Int)) = false := decide_eq_false (by rw [List.length_map]; omega)
    rw [e]
    have s1 : kv Φ (.prim (.sl false true) (.cons (.var 0) (.cons (.con (.int 3)) .nil))) (pe L k none) = .ok (.list (cutL (ns.map PyData.int) none (some 3)), true) (pe L k none) := by kernel_rfl
    have s2 : kv Φ (.prim (.bi "sum") (.cons (.prim (.sl false true) (.cons (.var 0) (.cons (.con (.int 3)) .nil))) .nil)) (pe L k none) = .ok (.int (((ns.drop (HT.sIx (ns.map PyData.int).length 0 none)).take (HT.sIx (ns.map PyData.int).length (ns.map PyData.int).length (some 3) - HT.sIx (ns.map PyData.int).length 0 none)).sum), false) (pe L k none) := by
      refine kv_prim (ρ1 := pe L k none) (kOs_cons (oOf_val s1) rfl) ?_
      show (match biD "sum" [.list (cutL (ns.map PyData.int) none (some 3))] with
        | some r => Out.ok r (pe L k none)
        | none => .bad) = _
      have b : biD "sum" [.list (cutL (ns.map PyData.int) none (some 3))] = (intsOf (cutL (ns.map PyData.int) none (some 3))).map fun ns => (.int ns.sum, false) := by kernel_rfl
      rw [b]
      unfold cutL
      rw [← List.map_drop, ← List.map_take, ints_map]
      rfl
    have m1 := kv_prim (Φ := Φ) (q := .mul) (es := .cons (.con (.int 43)) (.cons (.prim (.bi "sum") (.cons (.prim (.sl false true) (.cons (.var 0) (.cons (.con (.int 3)) .nil))) .nil)) .nil)) (ρ := pe L k none) (ρ1 := pe L k none) (ρ2 := pe L k none) (r := (.int (43 * _), false)) (kOs_cons (x := .val (.int 43)) rfl (kOs_cons (oOf_val s2) rfl)) (prim2 rfl rfl rfl)
    have m2 : kv Φ (.prim .mul (.cons (.con (.int 971)) (.cons (.prim .add (.cons (.var 1) (.cons (.con (.int 1)) .nil))) .nil))) (pe L k none) = .ok (.int (971 * ((k : Int) + 1)), false) (pe L k none) := by kernel_rfl
    exact kv_prim (q := .add) (ρ1 := pe L k none) (ρ2 := pe L k none) (kOs_cons (oOf_val m1) (kOs_cons (oOf_val m2) rfl)) (by rfl)
theorem k_pot {Φ : Fns} (ns : List Int) (k : Nat) : ∃ d : D, kD Φ D__law_pot [.fro (.list (ns.map .int)), .fro (I k)] = .ok (d, true) [.fro (.list (ns.map .int)), .fro (I k)] ∧ Pot 10 d := by
  obtain ⟨cell, h1⟩ := pt_cell (Φ := Φ) ns k
  let ρ := pe (.list (ns.map .int)) k (some (.fro (.int cell)))
  have t : kT (kv Φ (.prim .ge (.cons (.var 2) (.cons (.prim .pow (.cons (.con (.int 10)) (.cons (.con (.int 18)) .nil))) .nil)))) ρ = .ok (!decide (cell < 10 ^ 18)) ρ := by kernel_rfl
  by_cases h : cell < 10 ^ 18
  · have e : (!decide (cell < 10 ^ 18)) = false := by rw [decide_eq_true h]; rfl
    rw [e] at t
    have m1 : kv Φ (.prim .mul (.cons (.var 2) (.cons (.con (.int 1109)) .nil))) ρ = .ok (.int (cell * 1109), false) ρ := kv_prim (bs := [.val (.int cell), .val (.int 1109)]) rfl (prim2 rfl rfl (app_mulR rfl))
    have m2 : kv Φ (.prim .add (.cons (.prim .mul (.cons (.var 2) (.cons (.con (.int 1109)) .nil))) (.cons (.prim .mul (.cons (.con (.int 61)) (.cons (.var 1) .nil))) .nil))) ρ = .ok (.int (cell * 1109 + 61 * (k : Int)), false) ρ :=
      kv_prim (kOs_cons (oOf_val m1) (show kOs Φ _ ρ = .ok [.val (.int (61 * (k : Int)))] ρ by kernel_rfl)) (prim2 rfl rfl rfl)
    have m3 : kv Φ (.prim (.bi "int") (.cons (.prim .add (.cons (.prim .mul (.cons (.var 2) (.cons (.con (.int 1109)) .nil))) (.cons (.prim .mul (.cons (.con (.int 61)) (.cons (.var 1) .nil))) .nil))) .nil)) ρ = .ok (.int (cell * 1109 + 61 * (k : Int)), false) ρ :=
      kv_prim (ρ1 := ρ) (kOs_cons (oOf_val m2) rfl) (by kernel_rfl)
    have m4 : kv Φ (.prim .mod (.cons (.prim (.bi "int") (.cons (.prim .add (.cons (.prim .mul (.cons (.var 2) (.cons (.con (.int 1109)) .nil))) (.cons (.prim .mul (.cons (.con (.int 61)) (.cons (.var 1) .nil))) .nil))) .nil)) (.cons (.prim .add (.cons (.prim .pow (.cons (.con (.int 10)) (.cons (.con (.int 37)) .nil))) (.cons (.con (.int 43)) .nil))) .nil))) ρ = .ok (.int ((cell * 1109 + 61 * (k : Int)) % (10 ^ 37 + 43)), false) ρ :=
      kv_prim (kOs_cons (oOf_val m3) (show kOs Φ _ ρ = .ok [.val (.int (10 ^ 37 + 43))] ρ by kernel_rfl)) (prim2 (ρ := ρ) rfl rfl (app_mod (by decide)))
    refine ⟨.list [.int 0, .int ((cell * 1109 + 61 * (k : Int)) % (10 ^ 37 + 43)), .int 0], ?_, 0, _, 0, rfl, Int.emod_nonneg _ (by decide), ?_, by decide, by decide⟩
    · refine (kD_rt (ρ := ρ) rfl ((kxs_nx h1).trans ((kxs_nx ((kx_if t).trans rfl)).trans (kxs_rt (kx_retV ?_))))).trans rfl
      show bnd (kLs Φ _) _ ρ = _
      have l : kLs Φ (.cons (.con (.int 0)) (.cons (.prim .mod (.cons (.prim (.bi "int") (.cons (.prim .add (.cons (.prim .mul (.cons (.var 2) (.cons (.con (.int 1109)) .nil))) (.cons (.prim .mul (.cons (.con (.int 61)) (.cons (.var 1) .nil))) .nil))) .nil)) (.cons (.prim .add (.cons (.prim .pow (.cons (.con (.int 10)) (.cons (.con (.int 37)) .nil))) (.cons (.con (.int 43)) .nil))) .nil))) (.cons (.con (.int 0)) .nil))) ρ = .ok [.int 0, .int ((cell * 1109 + 61 * (k : Int)) % (10 ^ 37 + 43)), .int 0] ρ := by
        show bnd (Ty.ret (PyData.int 0, false)) (fun r => bnd (bnd (kv Φ _) _) fun ds => Ty.ret (r.1 :: ds)) ρ = _
        refine (bnd_at (a := (PyData.int 0, false)) (ρ' := ρ) rfl).trans ?_
        refine (bnd_at (a := [.int ((cell * 1109 + 61 * (k : Int)) % (10 ^ 37 + 43)), .int 0]) (ρ' := ρ) ((bnd_at m4).trans rfl)).trans rfl
      rw [bnd_at l]
      rfl
    · refine Int.lt_trans (Int.emod_lt_of_pos _ (by decide)) (by decide)
  · have e : (!decide (cell < 10 ^ 18)) = true := by rw [decide_eq_false h]; rfl
    rw [e] at t
    refine ⟨.list [.int (cell - 10 ^ 18), .int 7, .int 0], ?_, _, 7, 0, rfl, by decide, by decide, by decide, by decide⟩
    have r : kx Φ (.ret (.lst (.cons (.prim .sub (.cons (.var 2) (.cons (.prim .pow (.cons (.con (.int 10)) (.cons (.con (.int 18)) .nil))) .nil))) (.cons (.con (.int 7)) (.cons (.con (.int 0)) .nil))))) ρ = .rt (.list [.int (cell - 10 ^ 18), .int 7, .int 0], true) ρ := by kernel_rfl
    exact (kD_rt (ρ := ρ) rfl ((kxs_nx h1).trans (kxs_rt ((kx_if t).trans ((if_pos rfl).trans (kxs_rt r)))))).trans rfl
end Wk
set_option autoImplicit false
set_option maxHeartbeats 200000
/-! k92, the plain part 12: the law, its end. -/
namespace Wk
open PySem Ty
abbrev Φ4 : Fns := Ty.run tab PP 40
theorem right_run {m p : Nat} (hp : p ≤ 3) {d : D} (h : Pot (m + 4) d) : ∃ d' : D, Φ4 "_law_right" [.own true d, .fro (I p)] = .ok (.bool true, false) [.own true d', .fro (I p)] ∧ Pot m d' := by
  obtain ⟨d', e, hP⟩ := k_right (j := 38) (by decide) hp h
  exact ⟨d', run_of (d := D__law_right) rfl e, hP⟩
theorem pot_run (ns : List Int) (k : Nat) : ∃ d : D, Φ4 "_law_pot" [.fro (.list (ns.map .int)), .fro (I k)] = .ok (d, true) [.fro (.list (ns.map .int)), .fro (I k)] ∧ Pot 10 d := by
  obtain ⟨d, e, hP⟩ := k_pot (Φ := Ty.run tab PP 39) ns k
  exact ⟨d, run_of (d := D__law_pot) rfl e, hP⟩
abbrev le (L : D) (k : Nat) (x2 x3 : Option Sl) : Ty.Env := [some (.fro L), some (.fro (I k)), x2, x3]
abbrev A1 : Sm := .asg (.nm 2) (.call "_law_pot" (.val (.var 0) (.val (.var 1) .nil)))
abbrev A2 : Sm := .asg (.nm 3) (.ife (.prim .eq (.cons (.var 1) (.cons (.con (.int 0)) .nil))) (.call "_law_draw" (.ref 2 (.val (.con (.int 4)) .nil))) (.call "_law_draw" (.ref 2 (.val (.con (.int 3)) .nil))))
abbrev A3 : Sm := .ifs (.not (.call "_law_right" (.ref 2 (.val (.var 3) .nil)))) (.cons (.ret (.con (.bool false))) .nil) .nil
theorem ref2 {f : PySem.Str} {L d d' x : D} {k : Nat} {x3 : Option Sl} {r : R} (h : Φ4 f [.own true d, .fro x] = .ok r [.own true d', .fro x]) : callF Φ4 f [.ref 2, .val x] (le L k (some (.own false d)) x3) = .ok r (le L k (some (.own false d')) x3) := by
  show (match Φ4 f [.own true d, .fro x] with
    | .ok r ps => (match backArgs [.ref 2, .val x] ps (le L k (some (.own false d)) x3) with
      | some ρ' => Out.ok r ρ'
      | none => .bad)
    | .bad => .bad) = _
  rw [h]
  rfl
theorem kv_ife {Φ : Fns} {c a b : Ex} {k nw : Bool} {ρ ρ1 : Ty.Env} (h : kv Φ c ρ = .ok (.bool k, nw) ρ1) : kv Φ (.ife c a b) ρ = (if k = true then kv Φ a else kv Φ b) ρ1 := by
  show bnd (kv Φ c) _ ρ = _
  rw [bnd_at h]
  rfl
theorem kv_callR {Φ : Fns} {f : PySem.Str} {as : Ars} {xs : List Ty.Arg} {r : R} {ρ ρ1 ρ2 : Ty.Env} (ha : kA Φ as ρ = .ok xs ρ1) (h : callF Φ f xs ρ1 = .ok r ρ2) : kv Φ (.call f as) ρ = .ok r ρ2 := by
  show bnd (kA Φ as) (callF Φ f) ρ = _
  rw [bnd_at ha, h]
theorem law_turn (ns : List Int) (k : Nat) (hk : k < 2) (x2 x3 : Option D) : ∃ d' v : D, kxs Φ4 (.cons A1 (.cons A2 (.cons A3 .nil))) (le (.list (ns.map .int)) k (x2.map (.own false)) (x3.map .fro)) = .nx (le (.list (ns.map .int)) k (some (.own false d')) (some (.fro v))) := by
  obtain ⟨d, e1, P1⟩ := pot_run ns k
  have s1 : kx Φ4 A1 (le (.list (ns.map .int)) k (x2.map (.own false)) (x3.map .fro)) = .nx (le (.list (ns.map .int)) k (some (.own false d)) (x3.map .fro)) :=
    kx_asg (r := (d, true)) (ρ1 := le (.list (ns.map .int)) k (x2.map (.own false)) (x3.map .fro)) (kv_call [.list (ns.map .int), I k] (by cases x2 <;> cases x3 <;> rfl) e1) (by cases x2 <;> rfl)
  have s2 : ∃ (v : Nat) (d1 : D), v ≤ 3 ∧ Pot 9 d1 ∧ kx Φ4 A2 (le (.list (ns.map .int)) k (some (.own false d)) (x3.map .fro)) = .nx (le (.list (ns.map .int)) k (some (.own false d1)) (some (.fro (I v)))) := by
    have c : k = 0 ∨ k = 1 := by omega
    rcases c with rfl | rfl
    · obtain ⟨v, d1, e2, hv, P2⟩ := draw_run (j := 39) (m := 9) P1 4 (by decide) (by decide)
      refine ⟨v, d1, by omega, P2, kx_asg (r := (I v, false)) (ρ1 := le (.list (ns.map .int)) 0 (some (.own false d1)) (x3.map .fro)) ?_ (by cases x3 <;> rfl)⟩
      refine (kv_ife (k := true) (nw := false) (ρ1 := le (.list (ns.map .int)) 0 (some (.own false d)) (x3.map .fro)) rfl).trans ?_
      exact kv_callR (xs := [.ref 2, .val (I 4)]) (ρ1 := le (.list (ns.map .int)) 0 (some (.own false d)) (x3.map .fro)) rfl (ref2 e2)
    · obtain ⟨v, d1, e2, hv, P2⟩ := draw_run (j := 39) (m := 9) P1 3 (by decide) (by decide)
      refine ⟨v, d1, by omega, P2, kx_asg (r := (I v, false)) (ρ1 := le (.list (ns.map .int)) 1 (some (.own false d1)) (x3.map .fro)) ?_ (by cases x3 <;> rfl)⟩
      refine (kv_ife (k := false) (nw := false) (ρ1 := le (.list (ns.map .int)) 1 (some (.own false d)) (x3.map .fro)) rfl).trans ?_
      exact kv_callR (xs := [.ref 2, .val (I 3)]) (ρ1 := le (.list (ns.map .int)) 1 (some (.own false d)) (x3.map .fro)) rfl (ref2 e2)
  obtain ⟨v, d1, hv, P2, s2⟩ := s2
  obtain ⟨d2, e3, P3⟩ := right_run (m := 5) hv P2
  refine ⟨d2, I v, (kxs_nx s1).trans ((kxs_nx s2).trans ((kxs_nx ?_).trans kxs_nil))⟩
  refine (kx_if (k := false) ?_).trans rfl
  refine kT_of (nw := false) ?_
  have c : kv Φ4 (.call "_law_right" (.ref 2 (.val (.var 3) .nil))) (le (.list (ns.map .int)) k (some (.own false d1)) (some (.fro (I v)))) = .ok (.bool true, false) (le (.list (ns.map .int)) k (some (.own false d2)) (some (.fro (I v)))) :=
    kv_callR (xs := [.ref 2, .val (I v)]) (ρ1 := le (.list (ns.map .int)) k (some (.own false d1)) (some (.fro (I v)))) rfl (ref2 e3)
  show bnd (kv Φ4 _) _ _ = _
  rw [bnd_at c]
  rfl
theorem law_loop (ns : List Int) : ∀ (ks : List Nat) (x1 x2 x3 : Option D), (∀ k ∈ ks, k < 2) → ∃ y1 y2 y3 : Option D, forL (.nm 1) (kxs Φ4 (.cons A1 (.cons A2 (.cons A3 .nil)))) (ks.map I) [some (.fro (.list (ns.map .int))), x1.map .fro, x2.map (.own false), x3.map .fro] = .nx [some (.fro (.list (ns.map .int))), y1.map .fro, y2.map (.own false), y3.map .fro]
  | [], x1, x2, x3, _ => ⟨x1, x2, x3, rfl⟩
  | k :: ks, x1, x2, x3, h => by
    obtain ⟨d, v, e⟩ := law_turn ns k (h k (.head _)) x2 x3
    obtain ⟨y1, y2, y3, e2⟩ := law_loop ns ks (some (I k)) (some d) (some v) fun q hq => h q (.tail _ hq)
    exact ⟨y1, y2, y3, (forL_nx (ρ1 := le (.list (ns.map .int)) k (x2.map (.own false)) (x3.map .fro)) (by cases x1 <;> rfl) e).trans e2⟩
theorem law_range {Φ : Fns} (ns : List Int) : ∃ n : Nat, n ≤ 2 ∧ kI Φ (.rng1 (.prim (.bi "max") (.cons (.con (.int 1)) (.cons (.prim (.bi "min") (.cons (.prim (.bi "len") (.cons (.var 0) .nil)) (.cons (.con (.int 2)) .nil))) .nil)))) [some (.fro (.list (ns.map .int))), none, none, none] = .ok ((List.range n).map I) [some (.fro (.list (ns.map .int))), none, none, none] := by
  let ρ : Ty.Env := [some (.fro (.list (ns.map .int))), none, none, none]
  let mi : Int := if (2 : Int) < (((ns.map PyData.int).length : Nat) : Int) then 2 else (((ns.map PyData.int).length : Nat) : Int)
  have h1 : kv Φ (.prim (.bi "max") (.cons (.con (.int 1)) (.cons (.prim (.bi "min") (.cons (.prim (.bi "len") (.cons (.var 0) .nil)) (.cons (.con (.int 2)) .nil))) .nil))) ρ = .ok (.int (if mi > 1 then mi else 1), false) ρ := by kernel_rfl
  have h2 : ∃ n : Nat, n ≤ 2 ∧ (if mi > 1 then mi else 1) = (n : Int) := by
    by_cases a : (2 : Int) < (((ns.map PyData.int).length : Nat) : Int)
    · have : mi = 2 := if_pos a
      exact ⟨2, by decide, by rw [this]; rfl⟩
    · have e : mi = (((ns.map PyData.int).length : Nat) : Int) := if_neg a
      by_cases b : mi > 1
      · exact ⟨(ns.map PyData.int).length, by omega, by rw [if_pos b, e]⟩
      · exact ⟨1, by decide, by rw [if_neg b]; rfl⟩
  obtain ⟨n, hn, e⟩ := h2
  rw [e] at h1
  refine ⟨n, hn, ?_⟩
  rw [← range_nat]
  exact kI_rng1 h1 (by omega)
theorem law_run (ns : List Int) (hl : ns.length ≤ 63) (hb : ∀ z ∈ ns, Builtin.Int.intBits z ≤ 1048576) : ∃ ps, Ty.run tab PP 41 "law" [.fro (.list (ns.map .int))] = .ok (.bool true, false) ps := by
  obtain ⟨n, hn, e⟩ := law_range (Φ := Φ4) ns
  obtain ⟨y1, y2, y3, e2⟩ := law_loop ns (List.range n) none none none fun k hk => by
    have := List.mem_range.mp hk
    omega
  exact ⟨_, run_of (d := D_law) rfl (kD_rt rfl ((kxs_nx ((kx_for e).trans e2)).trans (kxs_rt (kx_retV rfl))))⟩
end Wk
set_option autoImplicit false
set_option maxHeartbeats 0
namespace Wk
open PySem PySem.Spec PyProof.Rows L2 GxR Ty
def mkD (i : Nat) (x : PySem.Str) : He.DefD := ⟨(x, none), x, x, defArgs (top i), defBody (top i), defScope (top i), [], []⟩
def fn0 : List He.DefD := [mkD 8 "is_integer", mkD 9 "is_within", mkD 10 "is_value", mkD 11 "is_row", mkD 12 "is_rising", mkD 13 "is_tuple_of", mkD 14 "is_word", mkD 15 "need_number", mkD 16 "code_of", mkD 17 "row_of", mkD 18 "all_rows", mkD 21 "is_relation_form"]
def fn1 : List He.DefD := [mkD 22 "need_relation", mkD 23 "mask_of", mkD 24 "relation_of", mkD 25 "full_mask", mkD 27 "holds_to", mkD 28 "all_clauses", mkD 29 "noughts_in", mkD 30 "ones_in", mkD 32 "row_sum", mkD 33 "fits_equation", mkD 34 "all_equations", mkD 40 "need_kind"]
def fn2 : List He.DefD := [mkD 41 "lets_clause", mkD 42 "lets_equation", mkD 43 "plain_masks", mkD 44 "least_mask", mkD 45 "least_of", mkD 46 "lies_at", mkD 50 "is_in", mkD 51 "least_in", mkD 52 "masks_in", mkD 53 "kind_sizes", mkD 54 "all_in", mkD 56 "need_rows"]
def fn3 : List He.DefD := [mkD 57 "mask_of_rows", mkD 58 "least_for", mkD 59 "fitted", mkD 61 "_law_pot", mkD 62 "_law_draw", mkD 63 "_law_rows", mkD 64 "_law_kinds", mkD 65 "_law_clause_masks", mkD 66 "_law_sum_masks", mkD 67 "_law_has_clause", mkD 68 "_law_kind_masks", mkD 69 "_law_unbits"]
def fn4 : List He.DefD := [mkD 70 "_law_features", mkD 71 "_law_lies", mkD 72 "_law_all_bits", mkD 73 "_law_relations", mkD 74 "_law_list_right", mkD 75 "_law_right", mkD 76 "law"]
def fn : List He.DefD := fn0 ++ fn1 ++ fn2 ++ fn3 ++ fn4

def fa0 : List He.Fa := [.glo "is_integer", .glo "is_within", .glo "is_value", .glo "is_row", .glo "is_rising", .glo "is_tuple_of", .glo "is_word", .glo "need_number", .glo "code_of", .glo "row_of", .glo "all_rows", .glo "is_relation_form"]
def fa1 : List He.Fa := [.glo "need_relation", .glo "mask_of", .glo "relation_of", .glo "full_mask", .glo "holds_to", .glo "all_clauses", .glo "noughts_in", .glo "ones_in", .glo "row_sum", .glo "fits_equation", .glo "all_equations", .glo "need_kind"]
def fa2 : List He.Fa := [.glo "lets_clause", .glo "lets_equation", .glo "plain_masks", .glo "least_mask", .glo "least_of", .glo "lies_at", .glo "is_in", .glo "least_in", .glo "masks_in", .glo "kind_sizes", .glo "all_in", .glo "need_rows"]
def fa3 : List He.Fa := [.glo "mask_of_rows", .glo "least_for", .glo "fitted", .glo "_law_pot", .glo "_law_draw", .glo "_law_rows", .glo "_law_kinds", .glo "_law_clause_masks", .glo "_law_sum_masks", .glo "_law_has_clause", .glo "_law_kind_masks", .glo "_law_unbits"]
def fa4 : List He.Fa := [.glo "_law_features", .glo "_law_lies", .glo "_law_all_bits", .glo "_law_relations", .glo "_law_list_right", .glo "_law_right", .glo "law", .glo "FALLING", .glo "RISING", .free "ValueError", .free "all", .free "any"]
def fa5 : List He.Fa := [.free "bool", .free "enumerate", .free "int", .free "isinstance", .free "len", .free "max", .free "min", .free "range", .free "repr", .free "set", .free "sorted", .free "str"]
def fa6 : List He.Fa := [.free "sum", .free "super", .free "tuple", .free "zip"]
def fa : List He.Fa := fa0 ++ fa1 ++ fa2 ++ fa3 ++ fa4 ++ fa5 ++ fa6

def ts : List He.Tab := [(fun K => He.ga K "FALLING", t_FALLING.map (·.1)), (fun K => He.ga K "RISING", t_RISING.map (·.1))]
def tf0 : List He.Defn := [("is_row", none), ("is_rising", none), ("is_relation_form", none), ("holds_to", none), ("row_sum", none), ("plain_masks", none), ("need_rows", none), ("mask_of_rows", none)]
def tf : List He.Defn := tf0

def exL : List (PySem.W.Frag → Bool) := [fun K => wrG K "KINDS" w_KINDS, fun K => wrG K "MOST_COUNTED" w_MOST_COUNTED, fun K => wrG K "MOST_LISTED" w_MOST_LISTED, fun K => wrG K "MOST_PLACES" w_MOST_PLACES, fun K => wrG K "MOST_ROWS" w_MOST_ROWS, fun K => wrG K "ORDERED" w_ORDERED, fun K => kvB K (He.ga K "FALLING") t_FALLING, fun K => kvB K (He.ga K "RISING") t_RISING]
def exK (K : PySem.W.Frag) : Bool := exL.all fun f => f K
theorem ex_at {K : PySem.W.Frag} (h : exK K = true) (i : Nat) {f : PySem.W.Frag → Bool} (e : exL[i]? = some f := by rfl) : f K = true := List.all_eq_true.mp h f (List.mem_of_getElem? e)
abbrev R : PySem.W.OpenRow := PySem.W.OpenLaw.row PySem.Challenge.rw_twovalues_k92_whole_sizes_of_kinds
abbrev hk : PySem.W.Hook := He.hookX 6 fa fn ts tf exK
def ob (s : PySem.W.SharedT) : He.AlX := He.obsX 6 fa fn ts tf exK (HandSHeadRun.getT s)
theorem ob_eq (s : PySem.W.SharedT) : ob s = hk.obs s.abs := He.obsX_eq (HandSHeadRun.getT_eq s)
def names0 : List PySem.Str := ["is_integer", "is_within", "is_value", "is_row", "is_rising", "is_tuple_of", "is_word", "need_number", "code_of", "row_of", "all_rows", "is_relation_form"]
def names1 : List PySem.Str := ["need_relation", "mask_of", "relation_of", "full_mask", "holds_to", "all_clauses", "noughts_in", "ones_in", "row_sum", "fits_equation", "all_equations", "need_kind"]
def names2 : List PySem.Str := ["lets_clause", "lets_equation", "plain_masks", "least_mask", "least_of", "lies_at", "is_in", "least_in", "masks_in", "kind_sizes", "all_in", "need_rows"]
def names3 : List PySem.Str := ["mask_of_rows", "least_for", "fitted", "_law_pot", "_law_draw", "_law_rows", "_law_kinds", "_law_clause_masks", "_law_sum_masks", "_law_has_clause", "_law_kind_masks", "_law_unbits"]
def names4 : List PySem.Str := ["_law_features", "_law_lies", "_law_all_bits", "_law_relations", "_law_list_right", "_law_right", "ValuesError", "BadNumber", "BadRelation", "BadRows", "BadKind", "MOST_PLACES"]
def names5 : List PySem.Str := ["MOST_ROWS", "KINDS", "RISING", "FALLING", "ORDERED", "MOST_COUNTED", "MOST_LISTED"]
def names : List PySem.Str := names0 ++ names1 ++ names2 ++ names3 ++ names4 ++ names5

theorem run_f (w : World) : HandSHeadRun.RunEq R (PySem.W.view R.prog [76]) hk ob 6000 names (w.withFollow "special-get-raises" false) := by
  intro os
  kernel_rfl
theorem run_t (w : World) : HandSHeadRun.RunEq R (PySem.W.view R.prog [76]) hk ob 6000 names (w.withFollow "special-get-raises" true) := by
  intro os
  kernel_rfl
theorem run_top (w : World) : HandSHeadRun.RunEq R (PySem.W.view R.prog [76]) hk ob 6000 names w := PySem.W.byRow2 "special-get-raises" run_f run_t w
end Wk
set_option autoImplicit false
set_option maxHeartbeats 0
namespace Wk
open PySem PySem.Spec PyProof.Rows L2 GxR Ty
section
variable {w : World} {h base : Heap} {K : PySem.W.Frag} {mg : PySem.Str → Option Value} {fa0 : Addr}
theorem u_is_integer (c : He.SaysX fa fn ts tf exK w h K) : Fun K "is_integer" "is_integer" (top 8) (He.ga K "is_integer") (fdOf K "is_integer") := fu_of (c.t.d.def_ 0 (d := mkD 8 "is_integer") (by kernel_rfl))
theorem u_is_within (c : He.SaysX fa fn ts tf exK w h K) : Fun K "is_within" "is_within" (top 9) (He.ga K "is_within") (fdOf K "is_within") := fu_of (c.t.d.def_ 1 (d := mkD 9 "is_within") (by kernel_rfl))
theorem u_is_value (c : He.SaysX fa fn ts tf exK w h K) : Fun K "is_value" "is_value" (top 10) (He.ga K "is_value") (fdOf K "is_value") := fu_of (c.t.d.def_ 2 (d := mkD 10 "is_value") (by kernel_rfl))
theorem u_is_row (c : He.SaysX fa fn ts tf exK w h K) : Fun K "is_row" "is_row" (top 11) (He.ga K "is_row") (fdOf K "is_row") := fu_of (c.t.d.def_ 3 (d := mkD 11 "is_row") (by kernel_rfl))
theorem u_is_rising (c : He.SaysX fa fn ts tf exK w h K) : Fun K "is_rising" "is_rising" (top 12) (He.ga K "is_rising") (fdOf K "is_rising") := fu_of (c.t.d.def_ 4 (d := mkD 12 "is_rising") (by kernel_rfl))
theorem u_is_tuple_of (c : He.SaysX fa fn ts tf exK w h K) : Fun K "is_tuple_of" "is_tuple_of" (top 13) (He.ga K "is_tuple_of") (fdOf K "is_tuple_of") := fu_of (c.t.d.def_ 5 (d := mkD 13 "is_tuple_of") (by kernel_rfl))
theorem u_is_word (c : He.SaysX fa fn ts tf exK w h K) : Fun K "is_word" "is_word" (top 14) (He.ga K "is_word") (fdOf K "is_word") := fu_of (c.t.d.def_ 6 (d := mkD 14 "is_word") (by kernel_rfl))
theorem u_need_number (c : He.SaysX fa fn ts tf exK w h K) : Fun K "need_number" "need_number" (top 15) (He.ga K "need_number") (fdOf K "need_number") := fu_of (c.t.d.def_ 7 (d := mkD 15 "need_number") (by kernel_rfl))
theorem u_code_of (c : He.SaysX fa fn ts tf exK w h K) : Fun K "code_of" "code_of" (top 16) (He.ga K "code_of") (fdOf K "code_of") := fu_of (c.t.d.def_ 8 (d := mkD 16 "code_of") (by kernel_rfl))
theorem u_row_of (c : He.SaysX fa fn ts tf exK w h K) : Fun K "row_of" "row_of" (top 17) (He.ga K "row_of") (fdOf K "row_of") := fu_of (c.t.d.def_ 9 (d := mkD 17 "row_of") (by kernel_rfl))
theorem u_all_rows (c : He.SaysX fa fn ts tf exK w h K) : Fun K "all_rows" "all_rows" (top 18) (He.ga K "all_rows") (fdOf K "all_rows") := fu_of (c.t.d.def_ 10 (d := mkD 18 "all_rows") (by kernel_rfl))
theorem u_is_relation_form (c : He.SaysX fa fn ts tf exK w h K) : Fun K "is_relation_form" "is_relation_form" (top 21) (He.ga K "is_relation_form") (fdOf K "is_relation_form") := fu_of (c.t.d.def_ 11 (d := mkD 21 "is_relation_form") (by kernel_rfl))
theorem u_need_relation (c : He.SaysX fa fn ts tf exK w h K) : Fun K "need_relation" "need_relation" (top 22) (He.ga K "need_relation") (fdOf K "need_relation") := fu_of (c.t.d.def_ 12 (d := mkD 22 "need_relation") (by kernel_rfl))
theorem u_mask_of (c : He.SaysX fa fn ts tf exK w h K) : Fun K "mask_of" "mask_of" (top 23) (He.ga K "mask_of") (fdOf K "mask_of") := fu_of (c.t.d.def_ 13 (d := mkD 23 "mask_of") (by kernel_rfl))
theorem u_relation_of (c : He.SaysX fa fn ts tf exK w h K) : Fun K "relation_of" "relation_of" (top 24) (He.ga K "relation_of") (fdOf K "relation_of") := fu_of (c.t.d.def_ 14 (d := mkD 24 "relation_of") (by kernel_rfl))
theorem u_full_mask (c : He.SaysX fa fn ts tf exK w h K) : Fun K "full_mask" "full_mask" (top 25) (He.ga K "full_mask") (fdOf K "full_mask") := fu_of (c.t.d.def_ 15 (d := mkD 25 "full_mask") (by kernel_rfl))
theorem u_holds_to (c : He.SaysX fa fn ts tf exK w h K) : Fun K "holds_to" "holds_to" (top 27) (He.ga K "holds_to") (fdOf K "holds_to") := fu_of (c.t.d.def_ 16 (d := mkD 27 "holds_to") (by kernel_rfl))
theorem u_all_clauses (c : He.SaysX fa fn ts tf exK w h K) : Fun K "all_clauses" "all_clauses" (top 28) (He.ga K "all_clauses") (fdOf K "all_clauses") := fu_of (c.t.d.def_ 17 (d := mkD 28 "all_clauses") (by kernel_rfl))
theorem u_noughts_in (c : He.SaysX fa fn ts tf exK w h K) : Fun K "noughts_in" "noughts_in" (top 29) (He.ga K "noughts_in") (fdOf K "noughts_in") := fu_of (c.t.d.def_ 18 (d := mkD 29 "noughts_in") (by kernel_rfl))
theorem u_ones_in (c : He.SaysX fa fn ts tf exK w h K) : Fun K "ones_in" "ones_in" (top 30) (He.ga K "ones_in") (fdOf K "ones_in") := fu_of (c.t.d.def_ 19 (d := mkD 30 "ones_in") (by kernel_rfl))
theorem u_row_sum (c : He.SaysX fa fn ts tf exK w h K) : Fun K "row_sum" "row_sum" (top 32) (He.ga K "row_sum") (fdOf K "row_sum") := fu_of (c.t.d.def_ 20 (d := mkD 32 "row_sum") (by kernel_rfl))
theorem u_fits_equation (c : He.SaysX fa fn ts tf exK w h K) : Fun K "fits_equation" "fits_equation" (top 33) (He.ga K "fits_equation") (fdOf K "fits_equation") := fu_of (c.t.d.def_ 21 (d := mkD 33 "fits_equation") (by kernel_rfl))
theorem u_all_equations (c : He.SaysX fa fn ts tf exK w h K) : Fun K "all_equations" "all_equations" (top 34) (He.ga K "all_equations") (fdOf K "all_equations") := fu_of (c.t.d.def_ 22 (d := mkD 34 "all_equations") (by kernel_rfl))
theorem u_need_kind (c : He.SaysX fa fn ts tf exK w h K) : Fun K "need_kind" "need_kind" (top 40) (He.ga K "need_kind") (fdOf K "need_kind") := fu_of (c.t.d.def_ 23 (d := mkD 40 "need_kind") (by kernel_rfl))
theorem u_lets_clause (c : He.SaysX fa fn ts tf exK w h K) : Fun K "lets_clause" "lets_clause" (top 41) (He.ga K "lets_clause") (fdOf K "lets_clause") := fu_of (c.t.d.def_ 24 (d := mkD 41 "lets_clause") (by kernel_rfl))
theorem u_lets_equation (c : He.SaysX fa fn ts tf exK w h K) : Fun K "lets_equation" "lets_equation" (top 42) (He.ga K "lets_equation") (fdOf K "lets_equation") := fu_of (c.t.d.def_ 25 (d := mkD 42 "lets_equation") (by kernel_rfl))
theorem u_plain_masks (c : He.SaysX fa fn ts tf exK w h K) : Fun K "plain_masks" "plain_masks" (top 43) (He.ga K "plain_masks") (fdOf K "plain_masks") := fu_of (c.t.d.def_ 26 (d := mkD 43 "plain_masks") (by kernel_rfl))
theorem u_least_mask (c : He.SaysX fa fn ts tf exK w h K) : Fun K "least_mask" "least_mask" (top 44) (He.ga K "least_mask") (fdOf K "least_mask") := fu_of (c.t.d.def_ 27 (d := mkD 44 "least_mask") (by kernel_rfl))
theorem u_least_of (c : He.SaysX fa fn ts tf exK w h K) : Fun K "least_of" "least_of" (top 45) (He.ga K "least_of") (fdOf K "least_of") := fu_of (c.t.d.def_ 28 (d := mkD 45 "least_of") (by kernel_rfl))
theorem u_lies_at (c : He.SaysX fa fn ts tf exK w h K) : Fun K "lies_at" "lies_at" (top 46) (He.ga K "lies_at") (fdOf K "lies_at") := fu_of (c.t.d.def_ 29 (d := mkD 46 "lies_at") (by kernel_rfl))
theorem u_is_in (c : He.SaysX fa fn ts tf exK w h K) : Fun K "is_in" "is_in" (top 50) (He.ga K "is_in") (fdOf K "is_in") := fu_of (c.t.d.def_ 30 (d := mkD 50 "is_in") (by kernel_rfl))
theorem u_least_in (c : He.SaysX fa fn ts tf exK w h K) : Fun K "least_in" "least_in" (top 51) (He.ga K "least_in") (fdOf K "least_in") := fu_of (c.t.d.def_ 31 (d := mkD 51 "least_in") (by kernel_rfl))
theorem u_masks_in (c : He.SaysX fa fn ts tf exK w h K) : Fun K "masks_in" "masks_in" (top 52) (He.ga K "masks_in") (fdOf K "masks_in") := fu_of (c.t.d.def_ 32 (d := mkD 52 "masks_in") (by kernel_rfl))
theorem u_kind_sizes (c : He.SaysX fa fn ts tf exK w h K) : Fun K "kind_sizes" "kind_sizes" (top 53) (He.ga K "kind_sizes") (fdOf K "kind_sizes") := fu_of (c.t.d.def_ 33 (d := mkD 53 "kind_sizes") (by kernel_rfl))
theorem u_all_in (c : He.SaysX fa fn ts tf exK w h K) : Fun K "all_in" "all_in" (top 54) (He.ga K "all_in") (fdOf K "all_in") := fu_of (c.t.d.def_ 34 (d := mkD 54 "all_in") (by kernel_rfl))
theorem u_need_rows (c : He.SaysX fa fn ts tf exK w h K) : Fun K "need_rows" "need_rows" (top 56) (He.ga K "need_rows") (fdOf K "need_rows") := fu_of (c.t.d.def_ 35 (d := mkD 56 "need_rows") (by kernel_rfl))
theorem u_mask_of_rows (c : He.SaysX fa fn ts tf exK w h K) : Fun K "mask_of_rows" "mask_of_rows" (top 57) (He.ga K "mask_of_rows") (fdOf K "mask_of_rows") := fu_of (c.t.d.def_ 36 (d := mkD 57 "mask_of_rows") (by kernel_rfl))
theorem u_least_for (c : He.SaysX fa fn ts tf exK w h K) : Fun K "least_for" "least_for" (top 58) (He.ga K "least_for") (fdOf K "least_for") := fu_of (c.t.d.def_ 37 (d := mkD 58 "least_for") (by kernel_rfl))
theorem u_fitted (c : He.SaysX fa fn ts tf exK w h K) : Fun K "fitted" "fitted" (top 59) (He.ga K "fitted") (fdOf K "fitted") := fu_of (c.t.d.def_ 38 (d := mkD 59 "fitted") (by kernel_rfl))
theorem u__law_pot (c : He.SaysX fa fn ts tf exK w h K) : Fun K "_law_pot" "_law_pot" (top 61) (He.ga K "_law_pot") (fdOf K "_law_pot") := fu_of (c.t.d.def_ 39 (d := mkD 61 "_law_pot") (by kernel_rfl))
theorem u__law_draw (c : He.SaysX fa fn ts tf exK w h K) : Fun K "_law_draw" "_law_draw" (top 62) (He.ga K "_law_draw") (fdOf K "_law_draw") := fu_of (c.t.d.def_ 40 (d := mkD 62 "_law_draw") (by kernel_rfl))
theorem u__law_rows (c : He.SaysX fa fn ts tf exK w h K) : Fun K "_law_rows" "_law_rows" (top 63) (He.ga K "_law_rows") (fdOf K "_law_rows") := fu_of (c.t.d.def_ 41 (d := mkD 63 "_law_rows") (by kernel_rfl))
theorem u__law_kinds (c : He.SaysX fa fn ts tf exK w h K) : Fun K "_law_kinds" "_law_kinds" (top 64) (He.ga K "_law_kinds") (fdOf K "_law_kinds") := fu_of (c.t.d.def_ 42 (d := mkD 64 "_law_kinds") (by kernel_rfl))
theorem u__law_clause_masks (c : He.SaysX fa fn ts tf exK w h K) : Fun K "_law_clause_masks" "_law_clause_masks" (top 65) (He.ga K "_law_clause_masks") (fdOf K "_law_clause_masks") := fu_of (c.t.d.def_ 43 (d := mkD 65 "_law_clause_masks") (by kernel_rfl))
theorem u__law_sum_masks (c : He.SaysX fa fn ts tf exK w h K) : Fun K "_law_sum_masks" "_law_sum_masks" (top 66) (He.ga K "_law_sum_masks") (fdOf K "_law_sum_masks") := fu_of (c.t.d.def_ 44 (d := mkD 66 "_law_sum_masks") (by kernel_rfl))
theorem u__law_has_clause (c : He.SaysX fa fn ts tf exK w h K) : Fun K "_law_has_clause" "_law_has_clause" (top 67) (He.ga K "_law_has_clause") (fdOf K "_law_has_clause") := fu_of (c.t.d.def_ 45 (d := mkD 67 "_law_has_clause") (by kernel_rfl))
theorem u__law_kind_masks (c : He.SaysX fa fn ts tf exK w h K) : Fun K "_law_kind_masks" "_law_kind_masks" (top 68) (He.ga K "_law_kind_masks") (fdOf K "_law_kind_masks") := fu_of (c.t.d.def_ 46 (d := mkD 68 "_law_kind_masks") (by kernel_rfl))
theorem u__law_unbits (c : He.SaysX fa fn ts tf exK w h K) : Fun K "_law_unbits" "_law_unbits" (top 69) (He.ga K "_law_unbits") (fdOf K "_law_unbits") := fu_of (c.t.d.def_ 47 (d := mkD 69 "_law_unbits") (by kernel_rfl))
theorem u__law_features (c : He.SaysX fa fn ts tf exK w h K) : Fun K "_law_features" "_law_features" (top 70) (He.ga K "_law_features") (fdOf K "_law_features") := fu_of (c.t.d.def_ 48 (d := mkD 70 "_law_features") (by kernel_rfl))
theorem u__law_lies (c : He.SaysX fa fn ts tf exK w h K) : Fun K "_law_lies" "_law_lies" (top 71) (He.ga K "_law_lies") (fdOf K "_law_lies") := fu_of (c.t.d.def_ 49 (d := mkD 71 "_law_lies") (by kernel_rfl))
theorem u__law_all_bits (c : He.SaysX fa fn ts tf exK w h K) : Fun K "_law_all_bits" "_law_all_bits" (top 72) (He.ga K "_law_all_bits") (fdOf K "_law_all_bits") := fu_of (c.t.d.def_ 50 (d := mkD 72 "_law_all_bits") (by kernel_rfl))
theorem u__law_relations (c : He.SaysX fa fn ts tf exK w h K) : Fun K "_law_relations" "_law_relations" (top 73) (He.ga K "_law_relations") (fdOf K "_law_relations") := fu_of (c.t.d.def_ 51 (d := mkD 73 "_law_relations") (by kernel_rfl))
theorem u__law_list_right (c : He.SaysX fa fn ts tf exK w h K) : Fun K "_law_list_right" "_law_list_right" (top 74) (He.ga K "_law_list_right") (fdOf K "_law_list_right") := fu_of (c.t.d.def_ 52 (d := mkD 74 "_law_list_right") (by kernel_rfl))
theorem u__law_right (c : He.SaysX fa fn ts tf exK w h K) : Fun K "_law_right" "_law_right" (top 75) (He.ga K "_law_right") (fdOf K "_law_right") := fu_of (c.t.d.def_ 53 (d := mkD 75 "_law_right") (by kernel_rfl))
theorem u_law (c : He.SaysX fa fn ts tf exK w h K) : Fun K "law" "law" (top 76) (He.ga K "law") (fdOf K "law") := fu_of (c.t.d.def_ 54 (d := mkD 76 "law") (by kernel_rfl))
theorem f_is_integer (c : He.SaysX fa fn ts tf exK w h K) (X : K.In base) (G : base.Ns mainGlobals mg) : Cb K mg "is_integer" p_is_integer := cb_mk X G (u_is_integer c) (c.t.d.fact 0 (f := .glo "is_integer") (by kernel_rfl)) fun _ _ _ _ _ _ us hl => match us, hl with | [_], _ => rfl
theorem f_is_within (c : He.SaysX fa fn ts tf exK w h K) (X : K.In base) (G : base.Ns mainGlobals mg) : Cb K mg "is_within" p_is_within := cb_mk X G (u_is_within c) (c.t.d.fact 1 (f := .glo "is_within") (by kernel_rfl)) fun _ _ _ _ _ _ us hl => match us, hl with | [_, _, _], _ => rfl
theorem f_is_value (c : He.SaysX fa fn ts tf exK w h K) (X : K.In base) (G : base.Ns mainGlobals mg) : Cb K mg "is_value" p_is_value := cb_mk X G (u_is_value c) (c.t.d.fact 2 (f := .glo "is_value") (by kernel_rfl)) fun _ _ _ _ _ _ us hl => match us, hl with | [_], _ => rfl
theorem f_is_row (c : He.SaysX fa fn ts tf exK w h K) (X : K.In base) (G : base.Ns mainGlobals mg) : Cb K mg "is_row" p_is_row := cb_mk X G (u_is_row c) (c.t.d.fact 3 (f := .glo "is_row") (by kernel_rfl)) fun _ _ _ _ _ _ us hl => match us, hl with | [_, _], _ => rfl
theorem f_is_rising (c : He.SaysX fa fn ts tf exK w h K) (X : K.In base) (G : base.Ns mainGlobals mg) : Cb K mg "is_rising" p_is_rising := cb_mk X G (u_is_rising c) (c.t.d.fact 4 (f := .glo "is_rising") (by kernel_rfl)) fun _ _ _ _ _ _ us hl => match us, hl with | [_], _ => rfl
theorem f_is_tuple_of (c : He.SaysX fa fn ts tf exK w h K) (X : K.In base) (G : base.Ns mainGlobals mg) : Cb K mg "is_tuple_of" p_is_tuple_of := cb_mk X G (u_is_tuple_of c) (c.t.d.fact 5 (f := .glo "is_tuple_of") (by kernel_rfl)) fun _ _ _ _ _ _ us hl => match us, hl with | [_, _, _], _ => rfl
theorem f_is_word (c : He.SaysX fa fn ts tf exK w h K) (X : K.In base) (G : base.Ns mainGlobals mg) : Cb K mg "is_word" p_is_word := cb_mk X G (u_is_word c) (c.t.d.fact 6 (f := .glo "is_word") (by kernel_rfl)) fun _ _ _ _ _ _ us hl => match us, hl with | [_, _], _ => rfl
theorem f_need_number (c : He.SaysX fa fn ts tf exK w h K) (X : K.In base) (G : base.Ns mainGlobals mg) : Cb K mg "need_number" p_need_number := cb_mk X G (u_need_number c) (c.t.d.fact 7 (f := .glo "need_number") (by kernel_rfl)) fun _ _ _ _ _ _ us hl => match us, hl with | [_, _, _], _ => rfl
theorem f_code_of (c : He.SaysX fa fn ts tf exK w h K) (X : K.In base) (G : base.Ns mainGlobals mg) : Cb K mg "code_of" p_code_of := cb_mk X G (u_code_of c) (c.t.d.fact 8 (f := .glo "code_of") (by kernel_rfl)) fun _ _ _ _ _ _ us hl => match us, hl with | [_], _ => rfl
theorem f_row_of (c : He.SaysX fa fn ts tf exK w h K) (X : K.In base) (G : base.Ns mainGlobals mg) : Cb K mg "row_of" p_row_of := cb_mk X G (u_row_of c) (c.t.d.fact 9 (f := .glo "row_of") (by kernel_rfl)) fun _ _ _ _ _ _ us hl => match us, hl with | [_, _], _ => rfl
theorem f_all_rows (c : He.SaysX fa fn ts tf exK w h K) (X : K.In base) (G : base.Ns mainGlobals mg) : Cb K mg "all_rows" p_all_rows := cb_mk X G (u_all_rows c) (c.t.d.fact 10 (f := .glo "all_rows") (by kernel_rfl)) fun _ _ _ _ _ _ us hl => match us, hl with | [_], _ => rfl
theorem f_is_relation_form (c : He.SaysX fa fn ts tf exK w h K) (X : K.In base) (G : base.Ns mainGlobals mg) : Cb K mg "is_relation_form" p_is_relation_form := cb_mk X G (u_is_relation_form c) (c.t.d.fact 11 (f := .glo "is_relation_form") (by kernel_rfl)) fun _ _ _ _ _ _ us hl => match us, hl with | [_], _ => rfl
theorem f_need_relation (c : He.SaysX fa fn ts tf exK w h K) (X : K.In base) (G : base.Ns mainGlobals mg) : Cb K mg "need_relation" p_need_relation := cb_mk X G (u_need_relation c) (c.t.d.fact 12 (f := .glo "need_relation") (by kernel_rfl)) fun _ _ _ _ _ _ us hl => match us, hl with | [_], _ => rfl
theorem f_mask_of (c : He.SaysX fa fn ts tf exK w h K) (X : K.In base) (G : base.Ns mainGlobals mg) : Cb K mg "mask_of" p_mask_of := cb_mk X G (u_mask_of c) (c.t.d.fact 13 (f := .glo "mask_of") (by kernel_rfl)) fun _ _ _ _ _ _ us hl => match us, hl with | [_], _ => rfl
theorem f_relation_of (c : He.SaysX fa fn ts tf exK w h K) (X : K.In base) (G : base.Ns mainGlobals mg) : Cb K mg "relation_of" p_relation_of := cb_mk X G (u_relation_of c) (c.t.d.fact 14 (f := .glo "relation_of") (by kernel_rfl)) fun _ _ _ _ _ _ us hl => match us, hl with | [_, _], _ => rfl
theorem f_full_mask (c : He.SaysX fa fn ts tf exK w h K) (X : K.In base) (G : base.Ns mainGlobals mg) : Cb K mg "full_mask" p_full_mask := cb_mk X G (u_full_mask c) (c.t.d.fact 15 (f := .glo "full_mask") (by kernel_rfl)) fun _ _ _ _ _ _ us hl => match us, hl with | [_], _ => rfl
theorem f_holds_to (c : He.SaysX fa fn ts tf exK w h K) (X : K.In base) (G : base.Ns mainGlobals mg) : Cb K mg "holds_to" p_holds_to := cb_mk X G (u_holds_to c) (c.t.d.fact 16 (f := .glo "holds_to") (by kernel_rfl)) fun _ _ _ _ _ _ us hl => match us, hl with | [_, _], _ => rfl
theorem f_all_clauses (c : He.SaysX fa fn ts tf exK w h K) (X : K.In base) (G : base.Ns mainGlobals mg) : Cb K mg "all_clauses" p_all_clauses := cb_mk X G (u_all_clauses c) (c.t.d.fact 17 (f := .glo "all_clauses") (by kernel_rfl)) fun _ _ _ _ _ _ us hl => match us, hl with | [_], _ => rfl
theorem f_noughts_in (c : He.SaysX fa fn ts tf exK w h K) (X : K.In base) (G : base.Ns mainGlobals mg) : Cb K mg "noughts_in" p_noughts_in := cb_mk X G (u_noughts_in c) (c.t.d.fact 18 (f := .glo "noughts_in") (by kernel_rfl)) fun _ _ _ _ _ _ us hl => match us, hl with | [_], _ => rfl
theorem f_ones_in (c : He.SaysX fa fn ts tf exK w h K) (X : K.In base) (G : base.Ns mainGlobals mg) : Cb K mg "ones_in" p_ones_in := cb_mk X G (u_ones_in c) (c.t.d.fact 19 (f := .glo "ones_in") (by kernel_rfl)) fun _ _ _ _ _ _ us hl => match us, hl with | [_], _ => rfl
theorem f_row_sum (c : He.SaysX fa fn ts tf exK w h K) (X : K.In base) (G : base.Ns mainGlobals mg) : Cb K mg "row_sum" p_row_sum := cb_mk X G (u_row_sum c) (c.t.d.fact 20 (f := .glo "row_sum") (by kernel_rfl)) fun _ _ _ _ _ _ us hl => match us, hl with | [_, _], _ => rfl
theorem f_fits_equation (c : He.SaysX fa fn ts tf exK w h K) (X : K.In base) (G : base.Ns mainGlobals mg) : Cb K mg "fits_equation" p_fits_equation := cb_mk X G (u_fits_equation c) (c.t.d.fact 21 (f := .glo "fits_equation") (by kernel_rfl)) fun _ _ _ _ _ _ us hl => match us, hl with | [_, _], _ => rfl
theorem f_all_equations (c : He.SaysX fa fn ts tf exK w h K) (X : K.In base) (G : base.Ns mainGlobals mg) : Cb K mg "all_equations" p_all_equations := cb_mk X G (u_all_equations c) (c.t.d.fact 22 (f := .glo "all_equations") (by kernel_rfl)) fun _ _ _ _ _ _ us hl => match us, hl with | [_], _ => rfl
theorem f_need_kind (c : He.SaysX fa fn ts tf exK w h K) (X : K.In base) (G : base.Ns mainGlobals mg) : Cb K mg "need_kind" p_need_kind := cb_mk X G (u_need_kind c) (c.t.d.fact 23 (f := .glo "need_kind") (by kernel_rfl)) fun _ _ _ _ _ _ us hl => match us, hl with | [_], _ => rfl
theorem f_lets_clause (c : He.SaysX fa fn ts tf exK w h K) (X : K.In base) (G : base.Ns mainGlobals mg) : Cb K mg "lets_clause" p_lets_clause := cb_mk X G (u_lets_clause c) (c.t.d.fact 24 (f := .glo "lets_clause") (by kernel_rfl)) fun _ _ _ _ _ _ us hl => match us, hl with | [_, _], _ => rfl
theorem f_lets_equation (c : He.SaysX fa fn ts tf exK w h K) (X : K.In base) (G : base.Ns mainGlobals mg) : Cb K mg "lets_equation" p_lets_equation := cb_mk X G (u_lets_equation c) (c.t.d.fact 25 (f := .glo "lets_equation") (by kernel_rfl)) fun _ _ _ _ _ _ us hl => match us, hl with | [_, _], _ => rfl
theorem f_plain_masks (c : He.SaysX fa fn ts tf exK w h K) (X : K.In base) (G : base.Ns mainGlobals mg) : Cb K mg "plain_masks" p_plain_masks := cb_mk X G (u_plain_masks c) (c.t.d.fact 26 (f := .glo "plain_masks") (by kernel_rfl)) fun _ _ _ _ _ _ us hl => match us, hl with | [_, _], _ => rfl
theorem f_least_mask (c : He.SaysX fa fn ts tf exK w h K) (X : K.In base) (G : base.Ns mainGlobals mg) : Cb K mg "least_mask" p_least_mask := cb_mk X G (u_least_mask c) (c.t.d.fact 27 (f := .glo "least_mask") (by kernel_rfl)) fun _ _ _ _ _ _ us hl => match us, hl with | [_, _, _], _ => rfl
theorem f_least_of (c : He.SaysX fa fn ts tf exK w h K) (X : K.In base) (G : base.Ns mainGlobals mg) : Cb K mg "least_of" p_least_of := cb_mk X G (u_least_of c) (c.t.d.fact 28 (f := .glo "least_of") (by kernel_rfl)) fun _ _ _ _ _ _ us hl => match us, hl with | [_, _], _ => rfl
theorem f_lies_at (c : He.SaysX fa fn ts tf exK w h K) (X : K.In base) (G : base.Ns mainGlobals mg) : Cb K mg "lies_at" p_lies_at := cb_mk X G (u_lies_at c) (c.t.d.fact 29 (f := .glo "lies_at") (by kernel_rfl)) fun _ _ _ _ _ _ us hl => match us, hl with | [_, _], _ => rfl
theorem f_is_in (c : He.SaysX fa fn ts tf exK w h K) (X : K.In base) (G : base.Ns mainGlobals mg) : Cb K mg "is_in" p_is_in := cb_mk X G (u_is_in c) (c.t.d.fact 30 (f := .glo "is_in") (by kernel_rfl)) fun _ _ _ _ _ _ us hl => match us, hl with | [_, _], _ => rfl
theorem f_least_in (c : He.SaysX fa fn ts tf exK w h K) (X : K.In base) (G : base.Ns mainGlobals mg) : Cb K mg "least_in" p_least_in := cb_mk X G (u_least_in c) (c.t.d.fact 31 (f := .glo "least_in") (by kernel_rfl)) fun _ _ _ _ _ _ us hl => match us, hl with | [_, _], _ => rfl
theorem f_masks_in (c : He.SaysX fa fn ts tf exK w h K) (X : K.In base) (G : base.Ns mainGlobals mg) : Cb K mg "masks_in" p_masks_in := cb_mk X G (u_masks_in c) (c.t.d.fact 32 (f := .glo "masks_in") (by kernel_rfl)) fun _ _ _ _ _ _ us hl => match us, hl with | [_, _], _ => rfl
theorem f_kind_sizes (c : He.SaysX fa fn ts tf exK w h K) (X : K.In base) (G : base.Ns mainGlobals mg) : Cb K mg "kind_sizes" p_kind_sizes := cb_mk X G (u_kind_sizes c) (c.t.d.fact 33 (f := .glo "kind_sizes") (by kernel_rfl)) fun _ _ _ _ _ _ us hl => match us, hl with | [_], _ => rfl
theorem f_all_in (c : He.SaysX fa fn ts tf exK w h K) (X : K.In base) (G : base.Ns mainGlobals mg) : Cb K mg "all_in" p_all_in := cb_mk X G (u_all_in c) (c.t.d.fact 34 (f := .glo "all_in") (by kernel_rfl)) fun _ _ _ _ _ _ us hl => match us, hl with | [_, _], _ => rfl
theorem f_need_rows (c : He.SaysX fa fn ts tf exK w h K) (X : K.In base) (G : base.Ns mainGlobals mg) : Cb K mg "need_rows" p_need_rows := cb_mk X G (u_need_rows c) (c.t.d.fact 35 (f := .glo "need_rows") (by kernel_rfl)) fun _ _ _ _ _ _ us hl => match us, hl with | [_, _], _ => rfl
theorem f_mask_of_rows (c : He.SaysX fa fn ts tf exK w h K) (X : K.In base) (G : base.Ns mainGlobals mg) : Cb K mg "mask_of_rows" p_mask_of_rows := cb_mk X G (u_mask_of_rows c) (c.t.d.fact 36 (f := .glo "mask_of_rows") (by kernel_rfl)) fun _ _ _ _ _ _ us hl => match us, hl with | [_], _ => rfl
theorem f_least_for (c : He.SaysX fa fn ts tf exK w h K) (X : K.In base) (G : base.Ns mainGlobals mg) : Cb K mg "least_for" p_least_for := cb_mk X G (u_least_for c) (c.t.d.fact 37 (f := .glo "least_for") (by kernel_rfl)) fun _ _ _ _ _ _ us hl => match us, hl with | [_, _, _], _ => rfl
theorem f_fitted (c : He.SaysX fa fn ts tf exK w h K) (X : K.In base) (G : base.Ns mainGlobals mg) : Cb K mg "fitted" p_fitted := cb_mk X G (u_fitted c) (c.t.d.fact 38 (f := .glo "fitted") (by kernel_rfl)) fun _ _ _ _ _ _ us hl => match us, hl with | [_, _, _, _], _ => rfl
theorem f__law_pot (c : He.SaysX fa fn ts tf exK w h K) (X : K.In base) (G : base.Ns mainGlobals mg) : Cb K mg "_law_pot" p__law_pot := cb_mk X G (u__law_pot c) (c.t.d.fact 39 (f := .glo "_law_pot") (by kernel_rfl)) fun _ _ _ _ _ _ us hl => match us, hl with | [_, _], _ => rfl
theorem f__law_draw (c : He.SaysX fa fn ts tf exK w h K) (X : K.In base) (G : base.Ns mainGlobals mg) : Cb K mg "_law_draw" p__law_draw := cb_mk X G (u__law_draw c) (c.t.d.fact 40 (f := .glo "_law_draw") (by kernel_rfl)) fun _ _ _ _ _ _ us hl => match us, hl with | [_, _], _ => rfl
theorem f__law_rows (c : He.SaysX fa fn ts tf exK w h K) (X : K.In base) (G : base.Ns mainGlobals mg) : Cb K mg "_law_rows" p__law_rows := cb_mk X G (u__law_rows c) (c.t.d.fact 41 (f := .glo "_law_rows") (by kernel_rfl)) fun _ _ _ _ _ _ us hl => match us, hl with | [_], _ => rfl
theorem f__law_kinds (c : He.SaysX fa fn ts tf exK w h K) (X : K.In base) (G : base.Ns mainGlobals mg) : Cb K mg "_law_kinds" p__law_kinds := cb_mk X G (u__law_kinds c) (c.t.d.fact 42 (f := .glo "_law_kinds") (by kernel_rfl)) fun _ _ _ _ _ _ us hl => match us, hl with | [], _ => rfl
theorem f__law_clause_masks (c : He.SaysX fa fn ts tf exK w h K) (X : K.In base) (G : base.Ns mainGlobals mg) : Cb K mg "_law_clause_masks" p__law_clause_masks := cb_mk X G (u__law_clause_masks c) (c.t.d.fact 43 (f := .glo "_law_clause_masks") (by kernel_rfl)) fun _ _ _ _ _ _ us hl => match us, hl with | [_], _ => rfl
theorem f__law_sum_masks (c : He.SaysX fa fn ts tf exK w h K) (X : K.In base) (G : base.Ns mainGlobals mg) : Cb K mg "_law_sum_masks" p__law_sum_masks := cb_mk X G (u__law_sum_masks c) (c.t.d.fact 44 (f := .glo "_law_sum_masks") (by kernel_rfl)) fun _ _ _ _ _ _ us hl => match us, hl with | [_], _ => rfl
theorem f__law_has_clause (c : He.SaysX fa fn ts tf exK w h K) (X : K.In base) (G : base.Ns mainGlobals mg) : Cb K mg "_law_has_clause" p__law_has_clause := cb_mk X G (u__law_has_clause c) (c.t.d.fact 45 (f := .glo "_law_has_clause") (by kernel_rfl)) fun _ _ _ _ _ _ us hl => match us, hl with | [_, _, _], _ => rfl
theorem f__law_kind_masks (c : He.SaysX fa fn ts tf exK w h K) (X : K.In base) (G : base.Ns mainGlobals mg) : Cb K mg "_law_kind_masks" p__law_kind_masks := cb_mk X G (u__law_kind_masks c) (c.t.d.fact 46 (f := .glo "_law_kind_masks") (by kernel_rfl)) fun _ _ _ _ _ _ us hl => match us, hl with | [_, _], _ => rfl
theorem f__law_unbits (c : He.SaysX fa fn ts tf exK w h K) (X : K.In base) (G : base.Ns mainGlobals mg) : Cb K mg "_law_unbits" p__law_unbits := cb_mk X G (u__law_unbits c) (c.t.d.fact 47 (f := .glo "_law_unbits") (by kernel_rfl)) fun _ _ _ _ _ _ us hl => match us, hl with | [_, _], _ => rfl
theorem f__law_features (c : He.SaysX fa fn ts tf exK w h K) (X : K.In base) (G : base.Ns mainGlobals mg) : Cb K mg "_law_features" p__law_features := cb_mk X G (u__law_features c) (c.t.d.fact 48 (f := .glo "_law_features") (by kernel_rfl)) fun _ _ _ _ _ _ us hl => match us, hl with | [_], _ => rfl
theorem f__law_lies (c : He.SaysX fa fn ts tf exK w h K) (X : K.In base) (G : base.Ns mainGlobals mg) : Cb K mg "_law_lies" p__law_lies := cb_mk X G (u__law_lies c) (c.t.d.fact 49 (f := .glo "_law_lies") (by kernel_rfl)) fun _ _ _ _ _ _ us hl => match us, hl with | [_, _], _ => rfl
theorem f__law_all_bits (c : He.SaysX fa fn ts tf exK w h K) (X : K.In base) (G : base.Ns mainGlobals mg) : Cb K mg "_law_all_bits" p__law_all_bits := cb_mk X G (u__law_all_bits c) (c.t.d.fact 50 (f := .glo "_law_all_bits") (by kernel_rfl)) fun _ _ _ _ _ _ us hl => match us, hl with | [_, _], _ => rfl
theorem f__law_relations (c : He.SaysX fa fn ts tf exK w h K) (X : K.In base) (G : base.Ns mainGlobals mg) : Cb K mg "_law_relations" p__law_relations := cb_mk X G (u__law_relations c) (c.t.d.fact 51 (f := .glo "_law_relations") (by kernel_rfl)) fun _ _ _ _ _ _ us hl => match us, hl with | [_, _], _ => rfl
theorem f__law_list_right (c : He.SaysX fa fn ts tf exK w h K) (X : K.In base) (G : base.Ns mainGlobals mg) : Cb K mg "_law_list_right" p__law_list_right := cb_mk X G (u__law_list_right c) (c.t.d.fact 52 (f := .glo "_law_list_right") (by kernel_rfl)) fun _ _ _ _ _ _ us hl => match us, hl with | [_, _, _], _ => rfl
theorem f__law_right (c : He.SaysX fa fn ts tf exK w h K) (X : K.In base) (G : base.Ns mainGlobals mg) : Cb K mg "_law_right" p__law_right := cb_mk X G (u__law_right c) (c.t.d.fact 53 (f := .glo "_law_right") (by kernel_rfl)) fun _ _ _ _ _ _ us hl => match us, hl with | [_, _], _ => rfl
theorem f_law (c : He.SaysX fa fn ts tf exK w h K) (X : K.In base) (G : base.Ns mainGlobals mg) : Cb K mg "law" p_law := cb_mk X G (u_law c) (c.t.d.fact 54 (f := .glo "law") (by kernel_rfl)) fun _ _ _ _ _ _ us hl => match us, hl with | [_], _ => rfl
theorem gf (c : He.SaysX fa fn ts tf exK w h K) (X : K.In base) (G : base.Ns mainGlobals mg) (T : ∀ p ∈ tf.map (He.cT K), GxR.TabB base mg p.1 p.2) : Gf K mg w base (tf.map (He.cT K)) :=
  ⟨f_is_integer c X G,
    u_is_integer c,
    f_is_within c X G,
    u_is_within c,
    f_is_value c X G,
    u_is_value c,
    f_is_row c X G,
    u_is_row c,
    f_is_rising c X G,
    u_is_rising c,
    f_is_tuple_of c X G,
    u_is_tuple_of c,
    f_is_word c X G,
    u_is_word c,
    f_need_number c X G,
    u_need_number c,
    f_code_of c X G,
    u_code_of c,
    f_row_of c X G,
    u_row_of c,
    f_all_rows c X G,
    u_all_rows c,
    f_is_relation_form c X G,
    u_is_relation_form c,
    f_need_relation c X G,
    u_need_relation c,
    f_mask_of c X G,
    u_mask_of c,
    f_relation_of c X G,
    u_relation_of c,
    f_full_mask c X G,
    u_full_mask c,
    f_holds_to c X G,
    u_holds_to c,
    f_all_clauses c X G,
    u_all_clauses c,
    f_noughts_in c X G,
    u_noughts_in c,
    f_ones_in c X G,
    u_ones_in c,
    f_row_sum c X G,
    u_row_sum c,
    f_fits_equation c X G,
    u_fits_equation c,
    f_all_equations c X G,
    u_all_equations c,
    f_need_kind c X G,
    u_need_kind c,
    f_lets_clause c X G,
    u_lets_clause c,
    f_lets_equation c X G,
    u_lets_equation c,
    f_plain_masks c X G,
    u_plain_masks c,
    f_least_mask c X G,
    u_least_mask c,
    f_least_of c X G,
    u_least_of c,
    f_lies_at c X G,
    u_lies_at c,
    f_is_in c X G,
    u_is_in c,
    f_least_in c X G,
    u_least_in c,
    f_masks_in c X G,
    u_masks_in c,
    f_kind_sizes c X G,
    u_kind_sizes c,
    f_all_in c X G,
    u_all_in c,
    f_need_rows c X G,
    u_need_rows c,
    f_mask_of_rows c X G,
    u_mask_of_rows c,
    f_least_for c X G,
    u_least_for c,
    f_fitted c X G,
    u_fitted c,
    f__law_pot c X G,
    u__law_pot c,
    f__law_draw c X G,
    u__law_draw c,
    f__law_rows c X G,
    u__law_rows c,
    f__law_kinds c X G,
    u__law_kinds c,
    f__law_clause_masks c X G,
    u__law_clause_masks c,
    f__law_sum_masks c X G,
    u__law_sum_masks c,
    f__law_has_clause c X G,
    u__law_has_clause c,
    f__law_kind_masks c X G,
    u__law_kind_masks c,
    f__law_unbits c X G,
    u__law_unbits c,
    f__law_features c X G,
    u__law_features c,
    f__law_lies c X G,
    u__law_lies c,
    f__law_all_bits c X G,
    u__law_all_bits c,
    f__law_relations c X G,
    u__law_relations c,
    f__law_list_right c X G,
    u__law_list_right c,
    f__law_right c X G,
    u__law_right c,
    f_law c X G,
    u_law c,
    He.free_ok X G (c.t.d.fact 58 (f := .free "all") (by kernel_rfl)),
    He.free_ok X G (c.t.d.fact 59 (f := .free "any") (by kernel_rfl)),
    He.free_ok X G (c.t.d.fact 60 (f := .free "bool") (by kernel_rfl)),
    He.free_ok X G (c.t.d.fact 61 (f := .free "enumerate") (by kernel_rfl)),
    He.free_ok X G (c.t.d.fact 62 (f := .free "int") (by kernel_rfl)),
    He.free_ok X G (c.t.d.fact 63 (f := .free "isinstance") (by kernel_rfl)),
    He.free_ok X G (c.t.d.fact 64 (f := .free "len") (by kernel_rfl)),
    He.free_ok X G (c.t.d.fact 65 (f := .free "max") (by kernel_rfl)),
    He.free_ok X G (c.t.d.fact 66 (f := .free "min") (by kernel_rfl)),
    He.free_ok X G (c.t.d.fact 67 (f := .free "range") (by kernel_rfl)),
    He.free_ok X G (c.t.d.fact 68 (f := .free "repr") (by kernel_rfl)),
    He.free_ok X G (c.t.d.fact 69 (f := .free "set") (by kernel_rfl)),
    He.free_ok X G (c.t.d.fact 70 (f := .free "sorted") (by kernel_rfl)),
    He.free_ok X G (c.t.d.fact 71 (f := .free "str") (by kernel_rfl)),
    He.free_ok X G (c.t.d.fact 72 (f := .free "sum") (by kernel_rfl)),
    He.free_ok X G (c.t.d.fact 74 (f := .free "tuple") (by kernel_rfl)),
    He.free_ok X G (c.t.d.fact 75 (f := .free "zip") (by kernel_rfl)),
    wrG_ok X G (ex_at c.more 0),
    wrG_ok X G (ex_at c.more 1),
    wrG_ok X G (ex_at c.more 2),
    wrG_ok X G (ex_at c.more 3),
    wrG_ok X G (ex_at c.more 4),
    wrG_ok X G (ex_at c.more 5),
    ktab_of (He.glo_ok X G (c.t.d.fact 55 (f := .glo "FALLING") (by kernel_rfl))) (tabW c.t 0) (ex_at c.more 6),
    ktab_of (He.glo_ok X G (c.t.d.fact 56 (f := .glo "RISING") (by kernel_rfl))) (tabW c.t 1) (ex_at c.more 7),
    ⟨(List.mem_map.mpr ⟨("is_row", none), List.mem_of_getElem? (l := tf) (i := 0) (by kernel_rfl), rfl⟩), T _ (List.mem_map.mpr ⟨("is_row", none), List.mem_of_getElem? (l := tf) (i := 0) (by kernel_rfl), rfl⟩), code_of (u_is_row c)⟩,
    ⟨(List.mem_map.mpr ⟨("is_rising", none), List.mem_of_getElem? (l := tf) (i := 1) (by kernel_rfl), rfl⟩), T _ (List.mem_map.mpr ⟨("is_rising", none), List.mem_of_getElem? (l := tf) (i := 1) (by kernel_rfl), rfl⟩), code_of (u_is_rising c)⟩,
    ⟨(List.mem_map.mpr ⟨("is_relation_form", none), List.mem_of_getElem? (l := tf) (i := 2) (by kernel_rfl), rfl⟩), T _ (List.mem_map.mpr ⟨("is_relation_form", none), List.mem_of_getElem? (l := tf) (i := 2) (by kernel_rfl), rfl⟩), code_of (u_is_relation_form c)⟩,
    ⟨(List.mem_map.mpr ⟨("holds_to", none), List.mem_of_getElem? (l := tf) (i := 3) (by kernel_rfl), rfl⟩), T _ (List.mem_map.mpr ⟨("holds_to", none), List.mem_of_getElem? (l := tf) (i := 3) (by kernel_rfl), rfl⟩), code_of (u_holds_to c)⟩,
    ⟨(List.mem_map.mpr ⟨("row_sum", none), List.mem_of_getElem? (l := tf) (i := 4) (by kernel_rfl), rfl⟩), T _ (List.mem_map.mpr ⟨("row_sum", none), List.mem_of_getElem? (l := tf) (i := 4) (by kernel_rfl), rfl⟩), code_of (u_row_sum c)⟩,
    ⟨(List.mem_map.mpr ⟨("plain_masks", none), List.mem_of_getElem? (l := tf) (i := 5) (by kernel_rfl), rfl⟩), T _ (List.mem_map.mpr ⟨("plain_masks", none), List.mem_of_getElem? (l := tf) (i := 5) (by kernel_rfl), rfl⟩), code_of (u_plain_masks c)⟩,
    ⟨(List.mem_map.mpr ⟨("need_rows", none), List.mem_of_getElem? (l := tf) (i := 6) (by kernel_rfl), rfl⟩), T _ (List.mem_map.mpr ⟨("need_rows", none), List.mem_of_getElem? (l := tf) (i := 6) (by kernel_rfl), rfl⟩), code_of (u_need_rows c)⟩,
    ⟨(List.mem_map.mpr ⟨("mask_of_rows", none), List.mem_of_getElem? (l := tf) (i := 7) (by kernel_rfl), rfl⟩), T _ (List.mem_map.mpr ⟨("mask_of_rows", none), List.mem_of_getElem? (l := tf) (i := 7) (by kernel_rfl), rfl⟩), code_of (u_mask_of_rows c)⟩⟩
theorem law_at (X : K.In h) (G : h.Ns mainGlobals mg) (hmg : mg "law" = some (.ref fa0)) (c : He.SaysX fa fn ts tf exK w h K) : LawAtG PySem.Challenge.rw_twovalues_k92_whole_sizes_of_kinds w K (3 * 41) 63 "script" mg fa0 h := by
  have e := hmg.symm.trans (He.glo_ok X G (c.t.d.fact 54 (f := .glo "law") (by kernel_rfl)))
  cases e
  refine ⟨fdOf K "law", tf.map (He.cT K), spT ⟨K, tbC (tf.map (He.cT K))⟩ (Ty.run tab PP 41 "law"), fun p hp => ?_, fun p hp => ?_, fun p hp => ?_, fun s u => ?_, fun Hz a ns hl hb hT hS => law_sp (law_run ns hl hb) hT hS, fun base X' G' T => (all_ok (gf c X' G' T) 41).k_law⟩
  · obtain ⟨q, hq, rfl⟩ := List.mem_map.mp hp
    exact c.empty q hq
  · obtain ⟨q, hq, rfl⟩ := List.mem_map.mp hp
    exact c.out q hq
  · obtain ⟨q, hq, rfl⟩ := List.mem_map.mp hp
    exact PySem.W.codeHd_of_K X (c.hd q hq)
  · obtain ⟨oc, od, kV, doc, pm, an, cdv, ct, osl, e, _⟩ := (u_law c).ex
    rw [e]
    exact .of_eq rfl
end
end Wk
open PySem.W PySem.Calls PyProof.Rows PySem
theorem PySem.Challenge.cw_twovalues_k92_whole_sizes_of_kinds_holds : PySem.Challenge.rw_twovalues_k92_whole_sizes_of_kinds.Holds := by
  w_on; o_law
  refine HandSHeadRun.head_any (r := OpenLaw.row PySem.Challenge.rw_twovalues_k92_whole_sizes_of_kinds) (q := view (OpenLaw.row PySem.Challenge.rw_twovalues_k92_whole_sizes_of_kinds).prog [76]) (H := Wk.hk) (ob := Wk.ob) (M := 6000) (loose := Wk.names) (d := HandSHeadRun.topDef (OpenLaw.row PySem.Challenge.rw_twovalues_k92_whole_sizes_of_kinds).prog 76) (kwd := []) Wk.ob_eq
    (by kernel_rfl) (fun s => by kernel_rfl) Wk.run_top (by kernel_rfl) (by kernel_rfl) (by kernel_rfl) (by rfl) (by first | assumption | decide +kernel) (by decide +kernel) ⟨rfl, rfl, rfl, rfl, rfl, by decide +kernel⟩ ?hw ?hc
  case hw => w_witness2
  case hc =>
    refine Ty.walk_G (l := PySem.Challenge.rw_twovalues_k92_whole_sizes_of_kinds) (n := 63) (k := 3 * 41) (x := "script") rfl (by decide) (by kernel_rfl) ⟨rfl, by decide, by decide⟩ fun w mg fa h Y G hmg0 => ?_
    obtain ⟨K, KX, c⟩ := Y
    have hmg : (mg ("law" : PySem.Str) = some (.ref fa)) := by
      have e : (HandSHeadRun.topDef (OpenLaw.row PySem.Challenge.rw_twovalues_k92_whole_sizes_of_kinds).prog 76).name = ("law" : PySem.Str) := by kernel_rfl
      rw [← e]
      exact hmg0
    exact ⟨K, KX, Wk.law_at KX G hmg c⟩
