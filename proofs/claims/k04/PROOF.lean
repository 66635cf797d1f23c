import PyProof.Rows.All
import HandS.ForMost
import HandS.Flow
import HandS.IsInst
import HandS.ExcOwn
import HandS.WordsExc
import HandS.Wide
import HandS.WideBits
import HandS.Style
import HandS.Deep
import HandS.TupAny
import HandS.SortInts
import HandS.Iter
import HandS.More
import HandS.Conv
import HandS.Flt
import HandS.Zip
import KE.SortData
import KE.KExcSuper
import KE.KExcIs
import HandS.ExcInit
import HandS.ExcValue
import HandS.ExcField
import KE.DataCmp
import PyProof.Rows.StrOr
import PyProof.ListStr
import HandS.Strs
import PyProof.Rows.SetFrom
import HandS.SetFor
import HandS.RevRange
import KE.KDictDisplayH
import HandS.DictComp
import HandS.Small
import PyProof.ReprBulk
import PyProof.Rows.ReprShort
import PyProof.FitsInt
import PySem.Challenge.RW_lottohouse_k04_fractions_refused
set_option Elab.async false
set_option linter.all false
set_option maxRecDepth 100000
namespace LH
open PySem PySem.W L2

/-! ## values -/
inductive KY where
  | k (x : Key) | t (xs : List Key)
  deriving DecidableEq
inductive D where
  | non | bl (b : Bool) | int (i : Int) | str (x : Str)
  | lst (xs : List D) | tup (xs : List D)
  | dct (t : Bool) (ks : List KY) (vs : List D)
  | ref (n : Nat) | fn (x : Str) | scr (ns : List Int) | exc (k : Nat) (v : D)
  deriving Inhabited
/-- live objects -/
inductive Ob where
  | lst (xs : List D)
  | dct (t : Bool) (kvs : List (KY × D))
  | lk (t : Bool) (kvs : List (KY × D))
  | dead
abbrev Store := List Ob
abbrev Env := List (Option D)

inductive R (α : Type) where
  | ok (a : α) (S : Store)
  | ex (c : Nat) (v : D) (S : Store)
  | no
def R.bind {α β : Type} (r : R α) (k : α → Store → R β) : R β :=
  match r with
  | .ok a S => k a S
  | .ex c v S => .ex c v S
  | .no => .no
def R.noex {α : Type} (r : R α) : R α :=
  match r with
  | .ok a S => .ok a S
  | _ => .no
/-- a value that must be there -/
def R.opt {α : Type} (o : Option α) (S : Store) : R α :=
  match o with
  | some a => .ok a S
  | none => .no

@[simp] theorem R.bind_ok {α β : Type} (a : α) (S : Store) (k : α → Store → R β) : (R.ok a S).bind k = k a S := id rfl
@[simp] theorem R.bind_ex {α β : Type} (c : Nat) (v : D) (S : Store) (k : α → Store → R β) : (R.ex c v S : R α).bind k = .ex c v S := id rfl
@[simp] theorem R.bind_no {α β : Type} (k : α → Store → R β) : (R.no : R α).bind k = .no := id rfl
@[simp] theorem R.noex_ok {α : Type} (a : α) (S : Store) : (R.ok a S).noex = .ok a S := id rfl
@[simp] theorem R.noex_ex {α : Type} (c : Nat) (v : D) (S : Store) : (R.ex c v S : R α).noex = .no := id rfl
@[simp] theorem R.noex_no {α : Type} : (R.no : R α).noex = .no := id rfl
@[simp] theorem R.opt_some {α : Type} (a : α) (S : Store) : R.opt (some a) S = .ok a S := id rfl
@[simp] theorem R.opt_none {α : Type} (S : Store) : (R.opt none S : R α) = .no := id rfl

/-! ## limits -/
def LMAX : Nat := 16000000
def BIG : Nat := 2 ^ 9000
def smallI (i : Int) : Bool := decide (i.natAbs < BIG)

/-! ## structure -/
mutual
/-- without refs from base on -/
def D.cl (n : Nat) : D → Bool
  | .lst xs => D.clL n xs
  | .tup xs => D.clL n xs
  | .dct _ _ vs => D.clL n vs
  | .ref m => decide (m < n)
  | .exc _ v => D.cl n v
  | _ => true
def D.clL (n : Nat) : List D → Bool
  | [] => true
  | x :: xs => D.cl n x && D.clL n xs
end
def Ob.cl (n : Nat) : Ob → Bool
  | .lst xs => D.clL n xs
  | .dct _ kvs => D.clL n (kvs.map (·.2))
  | .lk _ kvs => D.clL n (kvs.map (·.2))
  | .dead => true

mutual
/-- replace refs by g -/
def D.trav (g : Nat → Option D) : D → Option D
  | .lst xs => (D.travL g xs).map .lst
  | .tup xs => (D.travL g xs).map .tup
  | .dct t ks vs => (D.travL g vs).map (.dct t ks)
  | .ref n => g n
  | .exc k v => (D.trav g v).map (.exc k)
  | .non => some .non
  | .bl b => some (.bl b)
  | .int i => some (.int i)
  | .str x => some (.str x)
  | .fn x => some (.fn x)
  | .scr ns => some (.scr ns)
def D.travL (g : Nat → Option D) : List D → Option (List D)
  | [] => some []
  | x :: xs => (D.trav g x).bind fun y => (D.travL g xs).map (y :: ·)
end
/-- refs from base on replaced by what they hold -/
def flat (S : Store) (base : Nat) : Nat → D → Option D
  | 0 => D.trav fun n => if n < base then some (.ref n) else none
  | k + 1 => D.trav fun n => if n < base then some (.ref n) else
      match S[n]? with
      | some (.lst xs) => (D.travL (fun m => flat S base k (.ref m)) xs).map .lst
      | some (.dct t kvs) => (D.travL (fun m => flat S base k (.ref m)) (kvs.map (·.2))).map (.dct t (kvs.map (·.1)))
      | some (.lk t kvs) => (D.travL (fun m => flat S base k (.ref m)) (kvs.map (·.2))).map (.dct t (kvs.map (·.1)))
      | _ => none

/-! ## the code -/
inductive Ty where
  | int | bool | str | list | tuple | dict
  deriving DecidableEq
inductive COp where
  | eq | ne | lt | le | gt | ge | is_ | isnot | in_ | notin
  deriving DecidableEq
inductive BOp where
  | add | sub | mul | fdiv | mod | pow
  deriving DecidableEq
/-- built-in functions -/
inductive Bi where
  | len | abs | max | min | int | sum | sorted | repr | list | tuple | str | all | any | dict | bool
  deriving DecidableEq
/-- methods -/
inductive Me where
  | append | pop | insert | get | items | values | keys | count | index | bitlen | join
  deriving DecidableEq
/-- targets: a name, or a tuple of targets -/
inductive G where
  | nm (i : Nat) | tp (r : G) | nil | cons (a r : G)
def constD : Const → D
  | .bool b => .bl b
  | .int i => .int i
  | .str x => .str x
  | _ => .non
mutual
inductive E where
  | loc (i : Nat)
  | cst (c : Const)
  | glb (x : Str) (c : Const)
  | tup (es : EL)
  | lst (m : Bool) (es : EL)
  | dct (m t : Bool)
  | bin (m : Bool) (op : BOp) (a b : E)
  | neg (a : E)
  | cmp (op : COp) (a b : E)
  | chain (o1 o2 : COp) (a b c : E)
  | not (a : E)
  | and (a b : E)
  | or (a b : E)
  | ite (c a b : E)
  | ix (a b : E)
  | sl (m : Bool) (a lo hi : E)
  | slr (m : Bool) (a : E)
  | nop
  | call (f : Nat) (es : EL)
  | callC (f : Nat) (es : EL)
  | callk (f : Nat) (es ks : EL) (p : List Nat)
  | bi (m : Bool) (b : Bi) (es : EL)
  | lrng1 (m : Bool) (a : E)
  | lrng2 (m : Bool) (a b : E)
  | isi (a : E) (ts : List Ty) (one : Bool)
  | me (m : Bool) (k : Me) (a : E) (es : EL)
  | lc (m : Bool) (own : List (Str × Nat)) (elt : E) (g : G) (it : I) (cs : EL)
  | lc2 (m : Bool) (own : List (Str × Nat)) (elt : E) (g : G) (it : I) (cs : EL) (g1 : G) (it1 : I) (cs1 : EL)
  | dd (m : Bool) (es : EL)
  | ddt (m : Bool) (es : EL)
  | sst (m : Bool) (a : E)
  | lset (a : E)
  | dc (m : Bool) (own : List (Str × Nat)) (ke ve : E) (g : G) (it : I) (cs : EL)
  | fnv (x : Str)
  | cv (tab : List (Str × Nat)) (e : E) (es : EL)
  | val (e : E)
  | isx (e : E) (c : Option Nat)
  | bad
inductive EL where
  | nil
  | cons (e : E) (r : EL)
inductive I where
  | it (e : E)
  | rng1 (a : E)
  | rng2 (a b : E)
  | rng3 (a b c : E)
  | enum (a : E)
  | zip (a b : E)
  | rev (a : E)
  | revr (a : E)
  | items (a : E)
  | values (a : E)
end
mutual
inductive Sm where
  | asg (g : G) (e : E)
  | par (is : List Nat) (es : EL)
  | put (o i e : E)
  | aug (i : Nat) (op : BOp) (e : E)
  | ifs (c : E) (a b : B)
  | for_ (g : G) (it : I) (b : B)
  | while_ (c : E) (b : B)
  | ret (e : E)
  | retN
  | exp (e : E)
  | raise (c : Nat) (es : EL)
  | try_ (b : B) (k : Nat) (i j : Nat) (val : Bool)
  | bad
  | reti (t : E) (a b : E)
  | pass | brk | cnt
inductive B where
  | nil
  | cons (s : Sm) (r : B)
end

/-! ## operations -/
def b2i (b : Bool) : Int := if b then 1 else 0
mutual
def eqD : D → D → Bool
  | .non, .non => true
  | .bl a, .bl b => a == b
  | .bl a, .int j => b2i a == j
  | .int i, .bl b => i == b2i b
  | .int i, .int j => i == j
  | .str x, .str y => decide (x = y)
  | .lst xs, .lst ys => eqDL xs ys
  | .tup xs, .tup ys => eqDL xs ys
  | _, _ => false
def eqDL : List D → List D → Bool
  | [], [] => true
  | x :: xs, y :: ys => eqD x y && eqDL xs ys
  | _, _ => false
end
mutual
/-- none, bools, ints, texts, lists, tuples: what == is known of; k: how deep -/
def D.plain : Nat → D → Bool
  | _, .non | _, .bl _ | _, .int _ => true
  | _, .str x => PyData.strOk x
  | k + 1, .lst xs => D.plainL k xs
  | k + 1, .tup xs => D.plainL k xs
  | _, _ => false
def D.plainL : Nat → List D → Bool
  | _, [] => true
  | k, x :: xs => D.plain k x && D.plainL k xs
end
mutual
/-- .. and dicts -/
def D.plainR : Nat → D → Bool
  | _, .non | _, .bl _ | _, .int _ | _, .str _ => true
  | k + 1, .lst xs => D.plainRL k xs
  | k + 1, .tup xs => D.plainRL k xs
  | k + 1, .dct _ _ xs => D.plainRL k xs
  | _, _ => false
def D.plainRL : Nat → List D → Bool
  | _, [] => true
  | k, x :: xs => D.plainR k x && D.plainRL k xs
end
def DEEP : Nat := 20
/-- what is read -/
def rd (S : Store) (d : D) : Option D := flat S 0 4 d
def truthy (S : Store) : D → Option Bool
  | .non => some false
  | .bl b => some b
  | .int i => some (i != 0)
  | .str x => if x.length ≤ LMAX then some ((x.length : Int) != 0) else none
  | .lst xs => some (!xs.isEmpty)
  | .tup xs => some (!xs.isEmpty)
  | .ref n => match S[n]? with
    | some (.lst xs) => some (!xs.isEmpty)
    | _ => none
  | _ => none
def lenD (S : Store) : D → Option Int
  | .str x => if x.length ≤ LMAX then some x.length else none
  | .lst xs => some xs.length
  | .tup xs => some xs.length
  | .scr ns => some ns.length
  | .ref n => match S[n]? with
    | some (.lst xs) => some xs.length
    | some (.dct false kvs) => some kvs.length
    | some (.lk false kvs) => some kvs.length
    | _ => none
  | .dct false ks _ => some ks.length
  | _ => none
/-- the items of a list (live or not) -/
def lstD (S : Store) : D → Option (List D)
  | .lst xs => some xs
  | .ref n => match S[n]? with
    | some (.lst xs) => some xs
    | _ => none
  | _ => none
def cmpEq (S : Store) (a b : D) : Option Bool :=
  match a, b with
  | .int i, .int j => some (i == j)
  | .str x, .str y => some (decide (x = y))
  | .bl x, .bl y => some (x == y)
  | .non, .non => some true
  | a, b => match rd S a, rd S b with
    | some x, some y => if x.plain DEEP && y.plain DEEP then some (eqD x y) else none
    | _, _ => none
def mkL (m : Bool) (xs : List D) (S : Store) : R D :=
  if xs.length ≤ LMAX then (if m then .ok (.ref S.length) (S ++ [.lst xs]) else .ok (.lst xs) S) else .no
def mkT (xs : List D) (S : Store) : R D := if xs.length ≤ LMAX then .ok (.tup xs) S else .no
def mkD (m t : Bool) (kvs : List (KY × D)) (S : Store) : R D :=
  if m then .ok (.ref S.length) (S ++ [.dct t kvs]) else .ok (.dct t (kvs.map (·.1)) (kvs.map (·.2))) S
def addD (m : Bool) (a b : D) (S : Store) : R D :=
  match a, b with
  | .int i, .int j => .ok (.int (i + j)) S
  | .str x, .str y => if x.length + y.length ≤ LMAX then .ok (.str (x ++ y)) S else .no
  | .tup xs, .tup ys => if xs.length + ys.length ≤ LMAX then .ok (.tup (xs ++ ys)) S else .no
  | a, b => match lstD S a, lstD S b with
    | some xs, some ys => mkL m (xs ++ ys) S
    | _, _ => .no
/-- a text, n times -/
def strRep (x : Str) (n : Nat) : Str := ⟨(List.replicate n x.cps).foldl (· ++ ·) #[]⟩
def subD (a b : D) (S : Store) : R D :=
  match a, b with
  | .int i, .int j => .ok (.int (i - j)) S
  | _, _ => .no
def mulD (m : Bool) (a b : D) (S : Store) : R D :=
  match a, b with
  | .int i, .int j => if smallI i && smallI j then .ok (.int (i * j)) S else .no
  | .str x, .int j => if 0 ≤ j ∧ j ≤ LMAX ∧ x.length * j.toNat ≤ LMAX then .ok (.str (strRep x j.toNat)) S else .no
  | a, .int j => match lstD S a with
    | some xs => if 0 ≤ j ∧ j ≤ LMAX ∧ xs.length * j.toNat ≤ LMAX then mkL m ((List.replicate j.toNat xs).flatten) S else .no
    | none => .no
  | _, _ => .no
def fdivD (a b : D) (S : Store) : R D :=
  match a, b with
  | .int i, .int j => if smallI j && decide (j ≠ 0) then .ok (.int (i.fdiv j)) S else .no
  | _, _ => .no
def modD (a b : D) (S : Store) : R D :=
  match a, b with
  | .int i, .int j => if j ≠ 0 then .ok (.int (i.fmod j)) S else .no
  | _, _ => .no
def powD (a b : D) (S : Store) : R D :=
  match a, b with
  | .int i, .int j => if 0 ≤ j ∧ j ≤ 1000 ∧ i.natAbs < 2 ^ 200 then .ok (.int (i ^ j.toNat)) S else .no
  | _, _ => .no
def binD (m : Bool) (op : BOp) (a b : D) (S : Store) : R D :=
  match op with
  | .add => addD m a b S
  | .sub => subD a b S
  | .mul => mulD m a b S
  | .fdiv => fdivD a b S
  | .mod => modD a b S
  | .pow => powD a b S
def ixI (n : Nat) (i : Int) : Option Nat := if 0 ≤ i then (if i < n then some i.toNat else none) else if -(n : Int) ≤ i then some (i + n).toNat else none
def atD (xs : List D) (i : Int) : Option D := (ixI xs.length i).bind fun j => xs[j]?
def keyD : D → Option KY
  | .int i => some (.k (.inl i))
  | .str x => some (.k (.inr x))
  | .tup xs => (go xs).map .t
  | _ => none
where go : List D → Option (List Key)
  | [] => some []
  | .int i :: r => (go r).map (Sum.inl i :: ·)
  | .str x :: r => (go r).map (Sum.inr x :: ·)
  | _ => none
def KY.ofT : KY → Bool
  | .k _ => false
  | .t _ => true
def KY.d : KY → D
  | .k (.inl i) => .int i
  | .k (.inr x) => .str x
  | .t xs => .tup (xs.map fun
    | .inl i => .int i
    | .inr x => .str x)
def assoc (k : KY) (kvs : List (KY × D)) : Option D := (kvs.find? fun p => decide (p.1 = k)).map (·.2)
def putA (k : KY) (v : D) (kvs : List (KY × D)) : List (KY × D) :=
  if (kvs.any fun p => decide (p.1 = k)) = true then kvs.map (fun p => if p.1 = k then (p.1, v) else p) else kvs ++ [(k, v)]
def dropA (k : KY) (kvs : List (KY × D)) : List (KY × D) := kvs.filter fun p => decide (p.1 ≠ k)
/-- a dict's kind and pairs -/
def dctD (S : Store) : D → Option (Bool × List (KY × D))
  | .dct t ks vs => some (t, ks.zip vs)
  | .ref n => match S[n]? with
    | some (.dct t kvs) => some (t, kvs)
    | some (.lk t kvs) => some (t, kvs)
    | _ => none
  | _ => none
/-- a dict is locked: what it holds, the store behind -/
def lockS (S : Store) : D → Option (Bool × List (KY × D) × Store)
  | .dct t ks vs => some (t, ks.zip vs, S)
  | .ref n => match S[n]? with
    | some (.dct t kvs) => some (t, kvs, S.set n (.lk t kvs))
    | some (.lk t kvs) => some (t, kvs, S)
    | _ => none
  | _ => none
/-- a in b -/
def inD (S : Store) (a b : D) : Option Bool :=
  match b with
  | .str y => match a with
    | .str x => some (!(Builtin.Str.occurrences y x 0 y.length 1).isEmpty)
    | _ => none
  | b => match lstD S b with
    | some xs => match rd S a, D.travL (fun n => rd S (.ref n)) xs with
      | some d, some ds => if d.plain DEEP && (D.lst ds).plain DEEP then some (ds.any fun z => eqD z d) else none
      | _, _ => none
    | none => match b with
      | .tup xs => match rd S a, D.travL (fun n => rd S (.ref n)) xs with
        | some d, some ds => if d.plain 0 && D.plainL 0 ds then some (ds.any fun z => eqD z d) else none
        | _, _ => none
      | b => match dctD S b, keyD a with
        | some (t, kvs), some q => if q.ofT == t then some (assoc q kvs).isSome else none
        | _, _ => none
def keyP : Key → PyData
  | .inl i => .int i
  | .inr x => .str x
def KY.py : KY → PyData
  | .k x => keyP x
  | .t xs => .tuple (xs.map keyP)
mutual
/-- what repr writes, and what == and < are of (lists, tuples, dicts of ints, bools, none, texts) -/
def D.py : D → PyData
  | .bl b => .bool b
  | .dct _ ks vs => .dict ((ks.map KY.py).zip (D.pyL vs))
  | .int i => .int i
  | .str x => .str x
  | .lst xs => .list (D.pyL xs)
  | .tup xs => .tuple (D.pyL xs)
  | _ => .none
def D.pyL : List D → List PyData
  | [] => []
  | x :: xs => D.py x :: D.pyL xs
end
def D.isSeq : D → Bool
  | .lst _ => true
  | .tup _ => true
  | _ => false
/-- a < b, of lists, of tuples -/
def ordD (a b : D) : Option Bool := if a.isSeq && a.plain 10 && b.plain 10 && PySem.W.alike a.py b.py then some (PySem.W.dataLt a.py b.py) else none
def ltD : D → D → Option Bool
  | .int i, .int j => some (decide (i < j))
  | .str x, .str y => some (decide (x.cps.toList < y.cps.toList))
  | a, b => ordD a b
def leI : D → D → Option Bool
  | .int i, .int j => some (decide (i ≤ j))
  | a, b => if b.isSeq then (ordD b a).map (!·) else none
def gtD : D → D → Option Bool
  | .int i, .int j => some (decide (j < i))
  | .str x, .str y => some (decide (y.cps.toList < x.cps.toList))
  | a, b => if b.isSeq then ordD b a else none
def geD : D → D → Option Bool
  | .int i, .int j => some (decide (j ≤ i))
  | .str x, .str y => some (!decide (x.cps.toList < y.cps.toList))
  | a, b => (ordD a b).map (!·)
def D.isFn : D → Bool
  | .fn _ => true
  | _ => false
def isD : D → D → Option Bool
  | a, .non => match a with
    | .non => some true
    | .fn _ => none
    | _ => some false
  | .bl a, .bl b => some (decide (a = b))
  | a, .bl _ => if a.isFn then none else some false
  | _, _ => none
def isnD : D → D → Option Bool
  | a, .non => match a with
    | .non => some false
    | .fn _ => none
    | _ => some true
  | .bl a, .bl b => some (!decide (a = b))
  | a, .bl _ => if a.isFn then none else some true
  | _, _ => none
def cmpD (S : Store) (op : COp) (a b : D) : Option Bool :=
  match op with
  | .eq => cmpEq S a b
  | .ne => (cmpEq S a b).map (!·)
  | .lt => ltD a b
  | .le => leI a b
  | .gt => gtD a b
  | .ge => geD a b
  | .is_ => isD a b
  | .isnot => isnD a b
  | .in_ => inD S a b
  | .notin => (inD S a b).map (!·)
def ixD (a b : D) (S : Store) : Option D :=
  match a, b with
  | .lst xs, .int i => atD xs i
  | .tup xs, .int i => atD xs i
  | .scr ns, .int i => atD (ns.map .int) i
  | .str z, .int i => if z.length ≤ LMAX then (atI z.cps.toList i).map fun c => .str ⟨#[c]⟩ else none
  | a, b => match lstD S a, b with
    | some xs, .int i => atD xs i
    | _, k => match dctD S a, keyD k with
      | some (t, kvs), some q => if q.ofT == t then assoc q kvs else none
      | _, _ => none
/-- a slice's part: absent, or an int -/
def partE (nop : Bool) (d : D) : Option (Option Int) :=
  if nop then some none else match d with
    | .int i => some (some i)
    | _ => none
/-- xs[lo:hi] -/
def cutD {α : Type} (xs : List α) (lo hi : Option Int) : List α := (xs.drop (HT.sIx xs.length 0 lo)).take (HT.sIx xs.length xs.length hi - HT.sIx xs.length 0 lo)
def slD (m : Bool) (a : D) (l h : Option Int) (S : Store) : R D :=
  match a with
  | .str z => if z.length ≤ LMAX then .ok (.str (cutS z l h)) S else .no
  | .tup xs => .ok (.tup (cutD xs l h)) S
  | .scr ns => mkL m (cutD (ns.map .int) l h) S
  | a => match lstD S a with
    | some xs => mkL m (cutD xs l h) S
    | _ => .no

/-! ## built-in functions -/
def intsD : List D → Option (List Int)
  | [] => some []
  | .int i :: r => (intsD r).map (i :: ·)
  | _ => none
def blsD : List D → Option (List Bool)
  | [] => some []
  | .bl b :: r => (blsD r).map (b :: ·)
  | _ => none
def strsD : List D → Option (List Str)
  | [] => some []
  | .str x :: r => (strsD r).map (x :: ·)
  | _ => none
/-- a list's or a tuple's items -/
def seqD (S : Store) : D → Option (List D)
  | .tup xs => some xs
  | d => lstD S d
def insI (x : Int) : List Int → List Int
  | [] => [x]
  | y :: r => if x ≤ y then x :: y :: r else y :: insI x r
def sortI : List Int → List Int
  | [] => []
  | x :: r => insI x (sortI r)
/-- each number once -/
def ddI : List Int → List Int
  | [] => []
  | x :: r => if x ∈ r then ddI r else x :: ddI r
def maxI : Int → List Int → Int
  | x, [] => x
  | x, y :: r => maxI (if y > x then y else x) r
def minI : Int → List Int → Int
  | x, [] => x
  | x, y :: r => minI (if y < x then y else x) r
def pairsD : List D → Option (List (KY × D))
  | [] => some []
  | .tup [a, b] :: r => match keyD a, pairsD r with
    | some k, some kvs => if k.ofT then none else some ((k, b) :: kvs)
    | _, _ => none
  | _ => none
def mergeA (kvs : List (KY × D)) (ps : List (KY × D)) : List (KY × D) := ps.foldl (fun acc p => putA p.1 p.2 acc) kvs
def rngD (lo hi : Int) : List D := (List.range (hi - lo).toNat).map fun i => .int (lo + (i : Nat))
def okR (i : Int) : Bool := decide (-(2 ^ 62) ≤ i ∧ i < 2 ^ 62)
def biLen (as : List D) (S : Store) : R D :=
  match as with
  | [d] => .opt ((lenD S d).map .int) S
  | _ => .no
def biAbs (as : List D) (S : Store) : R D :=
  match as with
  | [.int i] => .ok (.int (if i < 0 then -i else i)) S
  | _ => .no
def max3 (i j k : Int) : Int := if k > (if j > i then j else i) then k else if j > i then j else i
def min3 (i j k : Int) : Int := if k < (if j < i then j else i) then k else if j < i then j else i
def biMax (as : List D) (S : Store) : R D :=
  match as with
  | [.int i, .int j] => .ok (.int (if j > i then j else i)) S
  | [.int i, .int j, .int k] => .ok (.int (max3 i j k)) S
  | [d] => match (lstD S d).bind intsD with
    | some (i :: r) => .ok (.int (maxI i r)) S
    | _ => .no
  | _ => .no
def biMin (as : List D) (S : Store) : R D :=
  match as with
  | [.int i, .int j] => .ok (.int (if j < i then j else i)) S
  | [.int i, .int j, .int k] => .ok (.int (min3 i j k)) S
  | [d] => match (lstD S d).bind intsD with
    | some (i :: r) => .ok (.int (minI i r)) S
    | _ => .no
  | _ => .no
def biInt (as : List D) (S : Store) : R D :=
  match as with
  | [.int i] => .ok (.int i) S
  | [.bl k] => .ok (.int (if k then 1 else 0)) S
  | _ => .no
def biBool (as : List D) (S : Store) : R D :=
  match as with
  | [.int i] => .ok (.bl (i != 0)) S
  | [.bl k] => .ok (.bl k) S
  | _ => .no
def listsD (S : Store) : List D → Option (List (List D))
  | [] => some []
  | d :: ds => (lstD S d).bind fun xs => (listsD S ds).map (xs :: ·)
def biSum (m : Bool) (as : List D) (S : Store) : R D :=
  match as with
  | [d] => match (lstD S d).bind intsD with
    | some is => .ok (.int is.sum) S
    | _ => .no
  | [d, e] => match (lstD S d).bind (listsD S), lstD S e with
    | some [], some zs => if zs.length ≤ LMAX then .ok e S else .no
    | some yss, some zs => mkL m (zs ++ yss.flatten) S
    | _, _ => .no
  | _ => .no
def keysI : List (KY × D) → Option (List Int)
  | [] => some []
  | (.k (.inl i), _) :: r => (keysI r).map (i :: ·)
  | _ => none
def keysS : List (KY × D) → Option (List Str)
  | [] => some []
  | (.k (.inr x), _) :: r => (keysS r).map (x :: ·)
  | _ => none
def strLe (x y : Str) : Bool := !decide (y.cps.toList < x.cps.toList)
def insS (x : Str) : List Str → List Str
  | [] => [x]
  | y :: r => if strLe x y then x :: y :: r else y :: insS x r
def sortS : List Str → List Str
  | [] => []
  | x :: r => insS x (sortS r)
def D.isLst : D → Bool
  | .lst _ => true
  | _ => false
def D.isTup1 : D → Bool
  | .tup (_ :: _) => true
  | _ => false
/-- each can be compared with each -/
def alikeL (ds : List D) : Bool := ds.all fun x => ds.all fun y => PySem.W.alike x.py y.py
def leD (a b : D) : Bool := PySem.W.dataLe false D.py a b
def biSorted (m : Bool) (as : List D) (S : Store) : R D :=
  match as with
  | [d] => match (lstD S d).bind intsD with
    | some is => mkL m ((sortI is).map .int) S
    | _ => match dctD S d with
      | some (false, kvs) => if kvs.length < 64 then match keysI kvs, keysS kvs with
        | some is, _ => mkL m ((sortI is).map .int) S
        | _, some xs => mkL m ((sortS xs).map .str) S
        | _, _ => .no else .no
      | _ => match (lstD S d).bind strsD with
        | some xs => if xs.length < 64 then mkL m ((sortS xs).map .str) S else .no
        | _ => match lstD S d with
          | some xs => if D.plainL 10 xs && (xs.all D.isLst || xs.all D.isTup1) && alikeL xs then mkL m (xs.mergeSort leD) S else .no
          | _ => .no
  | _ => .no
def biList (m : Bool) (as : List D) (S : Store) : R D :=
  match as with
  | [.str x] => if x.length ≤ LMAX then mkL m (x.cps.toList.map fun c => .str ⟨#[c]⟩) S else .no
  | [d] => match seqD S d with
    | some xs => mkL m xs S
    | _ => .no
  | _ => .no
def biTuple (as : List D) (S : Store) : R D :=
  match as with
  | [d] => match seqD S d with
    | some xs => mkT xs S
    | _ => .no
  | _ => .no
def biStr (as : List D) (S : Store) : R D :=
  match as with
  | [.int i] => if i.natAbs.log2 < 1920 then .ok (.str (toString i)) S else .no
  | _ => .no
def biAll (as : List D) (S : Store) : R D :=
  match as with
  | [d] => match (lstD S d).bind blsD with
    | some bs => .ok (.bl (bs.all id)) S
    | _ => .no
  | _ => .no
def biAny (as : List D) (S : Store) : R D :=
  match as with
  | [d] => match (lstD S d).bind blsD with
    | some bs => .ok (.bl (bs.any id)) S
    | _ => .no
  | _ => .no
def biDict (m : Bool) (as : List D) (S : Store) : R D :=
  match as with
  | [.lst xs] => match pairsD xs with
    | some ps => if ps.length ≤ LMAX then mkD m false (mergeA [] ps) S else .no
    | _ => .no
  | _ => .no
def biRepr (as : List D) (S : Store) : R D :=
  match as with
  | [d] => match rd S d with
    | some x => if x.plainR DEEP && decide ((PyData.shown x.py).length ≤ LMAX) && x.py.showable then .ok (.str (PyData.shown x.py)) S else .no
    | _ => .no
  | _ => .no
def biD (m : Bool) (b : Bi) (as : List D) (S : Store) : R D :=
  match b with
  | .len => biLen as S
  | .abs => biAbs as S
  | .max => biMax as S
  | .min => biMin as S
  | .int => biInt as S
  | .bool => biBool as S
  | .sum => biSum m as S
  | .sorted => biSorted m as S
  | .list => biList m as S
  | .tuple => biTuple as S
  | .str => biStr as S
  | .all => biAll as S
  | .any => biAny as S
  | .dict => biDict m as S
  | .repr => biRepr as S
/-- methods -/
def meAppend (a : D) (as : List D) (S : Store) : R D :=
  match a, as with
  | .ref n, [x] => match S[n]? with
    | some (.lst xs) => if xs.length < LMAX then .ok .non (S.set n (.lst (xs ++ [x]))) else .no
    | _ => .no
  | _, _ => .no
def meInsert (a : D) (as : List D) (S : Store) : R D :=
  match a, as with
  | .ref n, [.int i, x] => match S[n]? with
    | some (.lst xs) => if xs.length < LMAX ∧ 0 ≤ i ∧ i ≤ LMAX then .ok .non (S.set n (.lst (xs.take i.toNat ++ [x] ++ xs.drop i.toNat))) else .no
    | _ => .no
  | _, _ => .no
def mePop (a : D) (as : List D) (S : Store) : R D :=
  match a, as with
  | .ref n, [] => match S[n]? with
    | some (.lst xs) => match xs[xs.length - 1]? with
      | some y => .ok y (S.set n (.lst xs.dropLast))
      | _ => .no
    | _ => .no
  | .ref n, [.int i] => match S[n]? with
    | some (.lst xs) => if xs.length ≤ LMAX then match ixI xs.length i with
      | some j => match xs[j]? with
        | some y => .ok y (S.set n (.lst (xs.eraseIdx j)))
        | _ => .no
      | _ => .no else .no
    | _ => .no
  | _, _ => .no
def meGet (a : D) (as : List D) (S : Store) : R D :=
  match as with
  | [k, x] => match dctD S a, keyD k with
    | some (t, kvs), some q => if q.ofT == t then .ok ((assoc q kvs).getD x) S else .no
    | _, _ => .no
  | _ => .no
def meBits (a : D) (as : List D) (S : Store) : R D :=
  match a, as with
  | .int i, [] => .ok (.int (Builtin.Int.intBits i : Nat)) S
  | _, _ => .no
def meCount (a : D) (as : List D) (S : Store) : R D :=
  match (lstD S a).bind intsD, as with
  | some is, [.int k] => .ok (.int (is.count k : Nat)) S
  | _, _ => .no
def meIndex (a : D) (as : List D) (S : Store) : R D :=
  match lstD S a, as with
  | some xs, [d] => if d.plain DEEP && (D.lst xs).plain DEEP then match xs.findIdx? (fun z => eqD z d) with
    | some j => .ok (.int (j : Nat)) S
    | _ => .no else .no
  | _, _ => .no
def meJoin (a : D) (as : List D) (S : Store) : R D :=
  match a, as with
  | .str x, [d] => match (lstD S d).bind strsD with
    | some ys => if (ys.map (·.length)).sum + ys.length * x.length ≤ LMAX then .ok (.str (Txt.join x ys)) S else .no
    | _ => .no
  | _, _ => .no
def meD (m : Bool) (k : Me) (a : D) (as : List D) (S : Store) : R D :=
  match k with
  | .append => meAppend a as S
  | .insert => meInsert a as S
  | .pop => mePop a as S
  | .get => meGet a as S
  | .bitlen => meBits a as S
  | .count => meCount a as S
  | .index => meIndex a as S
  | .join => meJoin a as S
  | _ => .no
/-- what a method is of -/
def recv (k : Me) (S : Store) (d : D) : Bool :=
  match k with
  | .append | .insert | .pop | .count | .index => (lstD S d).isSome
  | .join => match d with
    | .str _ => true
    | _ => false
  | .get => (dctD S d).isSome
  | _ => true

/-! ## isinstance -/
def tyD (S : Store) : D → Option Ty
  | .bl _ => some .bool
  | .int _ => some .int
  | .str _ => some .str
  | .lst _ => some .list
  | .tup _ => some .tuple
  | .dct false _ _ => some .dict
  | .ref n => match S[n]? with
    | some (.lst _) => some .list
    | some (.dct _ _) => some .dict
    | some (.lk false _) => some .dict
    | _ => none
  | _ => none
def Ty.ix : Ty → Nat
  | .int => 0
  | .bool => 1
  | .str => 2
  | .list => 3
  | .tuple => 4
  | .dict => 5
def Ty.le : Ty → Ty → Bool
  | .bool, .int => true
  | a, b => a.ix == b.ix
def isiD (S : Store) (ts : List Ty) (d : D) : Option Bool :=
  match d with
  | .non => some false
  | d => (tyD S d).map fun t => ts.any (t.le ·)

/-! ## what is walked -/
inductive Src where
  | fix (xs : List D)
  | live (n : Nat) (xs : List D)
  | zipl (a b : D) (xs : List D)
def Src.items : Src → List D
  | .fix xs => xs
  | .live _ xs => xs
  | .zipl _ _ xs => xs
def Src.cur : Src → Nat → D → Store → Option D
  | .live n _, i, _, S => match S[n]? with
    | some (.lst xs) => xs[i]?
    | _ => none
  | .zipl a b _, i, _, S => match lstD S a, lstD S b with
    | some xs, some ys => (xs[i]?).bind fun x => (ys[i]?).map fun y => .tup [x, y]
    | _, _ => none
  | _, _, x, _ => some x
def Src.fin : Src → Nat → Store → Option Store
  | .live n _, i, S => match S[n]? with
    | some (.lst xs) => if xs.length ≤ i then some S else none
    | _ => none
  | .zipl a b _, i, S => match lstD S a, lstD S b with
    | some xs, some ys => if xs.length ≤ i ∨ ys.length ≤ i then some S else none
    | _, _ => none
  | _, _, S => some S
def srcD (S : Store) : D → Option Src
  | .lst xs => some (.fix xs)
  | .tup xs => some (.fix xs)
  | .str x => some (.fix (x.cps.toList.map fun c => .str ⟨#[c]⟩))
  | .ref n => match S[n]? with
    | some (.lst xs) => some (.live n xs)
    | _ => none
  | _ => none
/-- what a for walks: a dict is locked for good -/
def walkD (S : Store) (d : D) : R Src :=
  match lockS S d with
  | some (_, kvs, S') => .ok (.fix (kvs.map fun p => p.1.d)) S'
  | none => .opt (srcD S d) S
def walkI (S : Store) (d : D) : R Src :=
  match lockS S d with
  | some (false, kvs, S') => .ok (.fix (kvs.map fun p => .tup [p.1.d, p.2])) S'
  | _ => .no
def walkV (S : Store) (d : D) : R Src :=
  match lockS S d with
  | some (false, kvs, S') => .ok (.fix (kvs.map (·.2))) S'
  | _ => .no
mutual
def asgG : G → D → Env → Option Env
  | .nm i, d, ρ => some (ρ.set i (some d))
  | .tp r, .tup xs, ρ => asgL r xs ρ
  | _, _, _ => none
def asgL : G → List D → Env → Option Env
  | .nil, [], ρ => some ρ
  | .cons a r, x :: xs, ρ => (asgG a x ρ).bind fun ρ' => asgL r xs ρ'
  | _, _, _ => none
end
def wipeE (ρ : Env) : List Nat → Env
  | [] => ρ
  | v :: vs => (wipeE ρ vs).set v none
def lcRun (src : Src) (body : D → Store → R (Option D)) : List D → Nat → Store → R (List D)
  | [], i, S => match src.fin i S with
    | some S' => .ok [] S'
    | none => .no
  | x :: xs, i, S => match src.cur i x S with
    | some y => (body y S).noex.bind fun o S' => (lcRun src body xs (i + 1) S').bind fun r S'' => .ok (match o with
      | some z => z :: r
      | none => r) S''
    | none => .no

def lcBody (g : G) (vs : List Nat) (mc : Env → Store → R Bool) (me : Env → Store → R D) (ρ : Env) : D → Store → R (Option D) := fun x S => match asgG g x (wipeE ρ vs) with
  | some ρ' => (mc ρ' S).bind fun k S' => if k then (me ρ' S').bind fun d S'' => .ok (some d) S'' else .ok none S'
  | none => .no

mutual
def G.slots : G → List Nat
  | .nm i => [i]
  | .tp r => r.slots
  | .nil => []
  | .cons a r => a.slots ++ r.slots
end
/-- the same, where a turn makes some -/
def lcRunL (src : Src) (body : D → Store → R (List D)) : List D → Nat → Store → R (List D)
  | [], i, S => match src.fin i S with
    | some S' => .ok [] S'
    | none => .no
  | x :: xs, i, S => match src.cur i x S with
    | some y => (body y S).noex.bind fun o S' => (lcRunL src body xs (i + 1) S').bind fun r S'' => .ok (o ++ r) S''
    | none => .no
def lcBody2 (g : G) (vs : List Nat) (mc : Env → Store → R Bool) (mi1 : Env → Store → R Src) (g1 : G) (mc1 : Env → Store → R Bool) (me : Env → Store → R D) (ρ : Env) : D → Store → R (List D) := fun x S => match asgG g x (wipeE ρ vs) with
  | some ρ' => (mc ρ' S).bind fun k S' => if k then (mi1 ρ' S').bind fun src1 S2 => lcRun src1 (lcBody g1 g1.slots mc1 me ρ') src1.items 0 S2 else .ok [] S'
  | none => .no

/-- a dict is made -/
def dcRun (src : Src) (body : D → Store → R (Option (KY × D))) : List (KY × D) → List D → Nat → Store → R (List (KY × D))
  | acc, [], i, S => match src.fin i S with
    | some S' => .ok acc S'
    | none => .no
  | acc, x :: xs, i, S => match src.cur i x S with
    | some y => (body y S).noex.bind fun o S' => match o with
      | some p => if acc.length < LMAX then dcRun src body (putA p.1 p.2 acc) xs (i + 1) S' else .no
      | none => dcRun src body acc xs (i + 1) S'
    | none => .no
def dcBody (g : G) (vs : List Nat) (mc : Env → Store → R Bool) (mk mv : Env → Store → R D) (ρ : Env) : D → Store → R (Option (KY × D)) := fun x S => match asgG g x (wipeE ρ vs) with
  | some ρ' => (mc ρ' S).bind fun k S' => if k then (mk ρ' S').bind fun a S2 => (mv ρ' S2).bind fun b S3 => match keyD a with
    | some q => if q.ofT then .no else .ok (some (q, b)) S3
    | none => .no else .ok none S'
  | none => .no
/-- the pairs of a display, the keys as keys -/
def keysP : List D → Option (List (KY × D))
  | [] => some []
  | a :: b :: r => match keyD a, keysP r with
    | some k, some kvs => if k.ofT then none else some ((k, b) :: kvs)
    | _, _ => none
  | _ => none

def keysT : List D → Option (List (KY × D))
  | [] => some []
  | a :: b :: r => match keyD a, keysT r with
    | some k, some kvs => if k.ofT then some ((k, b) :: kvs) else none
    | _, _ => none
  | _ => none
/-- a function as a value: which one -/
def fnD (tab : List (Str × Nat)) : D → Option Nat
  | .fn x => tab.lookup x
  | _ => none
/-- isinstance of an exception or None; of ValueError: none -/
def isxD (c : Option Nat) : D → Option Bool
  | .non => some false
  | .exc k _ => match c with
    | none => some true
    | some 0 => some true
    | some j => some (decide (k = j))
  | _ => none
/-! ## expressions -/
def E.isNop : E → Bool
  | .nop => true
  | _ => false
section
variable (c : Nat → List D → Store → R D)
mutual
def semE : E → Env → Store → R D
  | .loc i, ρ, S => .opt (ρ.getD i none) S
  | .cst k, _, S => .ok (constD k) S
  | .glb _ k, _, S => .ok (constD k) S
  | .nop, _, S => .ok .non S
  | .bad, _, _ => .no
  | .tup es, ρ, S => (semL es ρ S).bind fun xs S' => mkT xs S'
  | .lst m es, ρ, S => (semL es ρ S).bind fun xs S' => mkL m xs S'
  | .dct m t, _, S => mkD m t [] S
  | .bin m op a b, ρ, S => (semE a ρ S).bind fun x S1 => (semE b ρ S1).bind fun y S2 => binD m op x y S2
  | .neg a, ρ, S => (semE a ρ S).bind fun x S1 => match x with
    | .int i => .ok (.int (-i)) S1
    | _ => .no
  | .cmp op a b, ρ, S => (semE a ρ S).bind fun x S1 => (semE b ρ S1).bind fun y S2 => .opt ((cmpD S2 op x y).map .bl) S2
  | .chain o1 o2 a b d, ρ, S => (semE a ρ S).bind fun x S1 => (semE b ρ S1).bind fun y S2 => match cmpD S2 o1 x y with
    | some true => (semE d ρ S2).bind fun z S3 => .opt ((cmpD S3 o2 y z).map .bl) S3
    | some false => .ok (.bl false) S2
    | none => .no
  | .not a, ρ, S => (semE a ρ S).bind fun x S1 => .opt ((truthy S1 x).map fun k => .bl (!k)) S1
  | .and a b, ρ, S => (semE a ρ S).bind fun x S1 => match truthy S1 x with
    | some true => semE b ρ S1
    | some false => .ok x S1
    | none => .no
  | .or a b, ρ, S => (semE a ρ S).bind fun x S1 => match truthy S1 x with
    | some true => .ok x S1
    | some false => semE b ρ S1
    | none => .no
  | .ite t a b, ρ, S => (semE t ρ S).bind fun x S1 => match truthy S1 x with
    | some true => semE a ρ S1
    | some false => semE b ρ S1
    | none => .no
  | .ix a b, ρ, S => (semE a ρ S).bind fun x S1 => (semE b ρ S1).bind fun y S2 => .opt (ixD x y S2) S2
  | .sl m a lo hi, ρ, S => (semE a ρ S).bind fun x S1 => (semE lo ρ S1).bind fun l S2 => (semE hi ρ S2).bind fun h S3 => match partE lo.isNop l, partE hi.isNop h with
    | some l', some h' => slD m x l' h' S3
    | _, _ => .no
  | .slr m a, ρ, S => (semE a ρ S).bind fun x S1 => match lstD S1 x with
    | some xs => mkL m xs.reverse S1
    | none => .no
  | .call f es, ρ, S => (semL es ρ S).bind fun xs S1 => (c f xs S1).noex
  | .callC f es, ρ, S => (semL es ρ S).bind fun xs S1 => if D.clL 0 xs then match c f xs [] with
    | .ok d [] => if d.cl 0 then .ok d S1 else .no
    | _ => .no else .no
  | .callk f es ks p, ρ, S => (semL es ρ S).bind fun xs S1 => (semL ks ρ S1).bind fun ys S2 => match p.mapM fun i => (xs ++ ys)[i]? with
    | some zs => (c f zs S2).noex
    | none => .no
  | .bi m b es, ρ, S => (semL es ρ S).bind fun xs S1 => biD m b xs S1
  | .lrng1 m a, ρ, S => (semE a ρ S).bind fun x S1 => match x with
    | .int j => if okR j then mkL m (rngD 0 j) S1 else .no
    | _ => .no
  | .lrng2 m a b, ρ, S => (semE a ρ S).bind fun x S1 => (semE b ρ S1).bind fun y S2 => match x, y with
    | .int i, .int j => if okR i && okR j then mkL m (rngD i j) S2 else .no
    | _, _ => .no
  | .isi a ts _, ρ, S => (semE a ρ S).bind fun x S1 => .opt ((isiD S1 ts x).map .bl) S1
  | .me m k a es, ρ, S => (semE a ρ S).bind fun x S1 => if recv k S1 x then (semL es ρ S1).bind fun xs S2 => meD m k x xs S2 else .no
  | .lc m own elt g it cs, ρ, S => (semI it ρ S).bind fun src S1 => (lcRun src (lcBody g (own.map (·.2)) (semC cs) (semE elt) ρ) src.items 0 S1).bind fun xs S3 => mkL m xs S3
  | .lc2 m own elt g it cs g1 it1 cs1, ρ, S => (semI it ρ S).bind fun src S1 => (lcRunL src (lcBody2 g (own.map (·.2)) (semC cs) (semI it1) g1 (semC cs1) (semE elt) ρ) src.items 0 S1).bind fun xs S3 => mkL m xs S3
  | .dc m own ke ve g it cs, ρ, S => (semI it ρ S).bind fun src S1 => (dcRun src (dcBody g (own.map (·.2)) (semC cs) (semE ke) (semE ve) ρ) [] src.items 0 S1).bind fun kvs S3 => mkD m false kvs S3
  | .sst m a, ρ, S => (semE a ρ S).bind fun x S1 => match (lstD S1 x).bind intsD with
    | some is => if is.length ≤ 4000 ∧ (ddI is).length < 64 then mkL m ((sortI (ddI is)).map .int) S1 else .no
    | none => .no
  | .lset a, ρ, S => (semE a ρ S).bind fun x S1 => match (lstD S1 x).bind intsD with
    | some is => if is.length ≤ 4000 then .ok (.int (ddI is).length) S1 else .no
    | none => .no
  | .dd m es, ρ, S => (semL es ρ S).bind fun xs S1 => match keysP xs with
    | some kvs => if kvs.length ≤ 15 then mkD m false (mergeA [] kvs) S1 else .no
    | none => .no
  | .ddt m es, ρ, S => (semL es ρ S).bind fun xs S1 => match keysT xs with
    | some kvs => if kvs.length ≤ 15 then mkD m true (mergeA [] kvs) S1 else .no
    | none => .no
  | .fnv x, _, S => .ok (.fn x) S
  | .cv tab e es, ρ, S => (semE e ρ S).bind fun x S1 => match fnD tab x with
    | some f => (semL es ρ S1).bind fun xs S2 => (c f xs S2).noex
    | none => .no
  | .val e, ρ, S => (semE e ρ S).bind fun x S1 => match x with
    | .exc _ v => .ok v S1
    | _ => .no
  | .isx e k, ρ, S => (semE e ρ S).bind fun x S1 => .opt ((isxD k x).map .bl) S1
def semL : EL → Env → Store → R (List D)
  | .nil, _, S => .ok [] S
  | .cons e r, ρ, S => (semE e ρ S).bind fun x S1 => (semL r ρ S1).bind fun xs S2 => .ok (x :: xs) S2
/-- all tests -/
def semC : EL → Env → Store → R Bool
  | .nil, _, S => .ok true S
  | .cons e r, ρ, S => (semE e ρ S).bind fun x S1 => match truthy S1 x with
    | some true => semC r ρ S1
    | some false => .ok false S1
    | none => .no
def semI : I → Env → Store → R Src
  | .it e, ρ, S => (semE e ρ S).bind fun x S1 => walkD S1 x
  | .items e, ρ, S => (semE e ρ S).bind fun x S1 => walkI S1 x
  | .values e, ρ, S => (semE e ρ S).bind fun x S1 => walkV S1 x
  | .rng1 a, ρ, S => (semE a ρ S).bind fun x S1 => match x with
    | .int j => if okR j then .ok (.fix (rngD 0 j)) S1 else .no
    | _ => .no
  | .rng2 a b, ρ, S => (semE a ρ S).bind fun x S1 => (semE b ρ S1).bind fun y S2 => match x, y with
    | .int i, .int j => if okR i && okR j then .ok (.fix (rngD i j)) S2 else .no
    | _, _ => .no
  | .enum a, ρ, S => (semE a ρ S).bind fun x S1 => match x with
    | .lst xs => .ok (.fix ((List.range xs.length).zip xs |>.map fun p => .tup [.int (p.1 : Nat), p.2])) S1
    | _ => .no
  | .zip a b, ρ, S => (semE a ρ S).bind fun x S1 => (semE b ρ S1).bind fun y S2 => match x, y with
    | .lst xs, .lst ys => .ok (.fix ((xs.zip ys).map fun p => .tup [p.1, p.2])) S2
    | .tup xs, .tup ys => .ok (.fix ((xs.zip ys).map fun p => .tup [p.1, p.2])) S2
    | x, y => match lstD S2 x, lstD S2 y with
      | some xs, some ys => .ok (.zipl x y ((xs.zip ys).map fun p => .tup [p.1, p.2])) S2
      | _, _ => .no
  | .revr a, ρ, S => (semE a ρ S).bind fun x S1 => match x with
    | .int j => if okR j then .ok (.fix (rngD 0 j).reverse) S1 else .no
    | _ => .no
  | _, _, _ => .no
end
/-- what an exception may leave: a call -/
def E.isX : E → Bool
  | .call _ _ => true
  | .callk _ _ _ _ => true
  | .cv _ _ _ => true
  | _ => false
def semX : E → Env → Store → R D
  | .call f es, ρ, S => (semL c es ρ S).noex.bind fun xs S1 => c f xs S1
  | .callk f es ks p, ρ, S => (semL c es ρ S).noex.bind fun xs S1 => (semL c ks ρ S1).noex.bind fun ys S2 => match p.mapM fun i => (xs ++ ys)[i]? with
    | some zs => c f zs S2
    | none => .no
  | .cv tab e es, ρ, S => (semE c e ρ S).noex.bind fun x S1 => match fnD tab x with
    | some f => (semL c es ρ S1).noex.bind fun xs S2 => c f xs S2
    | none => .no
  | e, ρ, S => (semE c e ρ S).noex
/-- an expression as a test -/
def semT (e : E) (ρ : Env) (S : Store) : R Bool := (semE c e ρ S).bind fun x S1 => .opt (truthy S1 x) S1
end

/-! ## statements -/
inductive RS where
  | nx (ρ : Env) (S : Store)
  | rt (d : D) (S : Store)
  | bk (ρ : Env) (S : Store)
  | ct (ρ : Env) (S : Store)
  | ex (c : Nat) (v : D) (ρ : Env) (S : Store)
  | no
def R.toS {α : Type} (r : R α) (ρ : Env) (k : α → Store → RS) : RS :=
  match r with
  | .ok a S => k a S
  | _ => .no
/-- .. where an exception goes on -/
def R.toX {α : Type} (r : R α) (ρ : Env) (k : α → Store → RS) : RS :=
  match r with
  | .ok a S => k a S
  | .ex c v S => .ex c v ρ S
  | .no => .no
def putD (o i v : D) (S : Store) : Option Store :=
  match o with
  | .ref n => match S[n]? with
    | some (.lst xs) => match i with
      | .int k => (ixI xs.length k).map fun j => S.set n (.lst (xs.set j v))
      | _ => none
    | some (.dct t kvs) => match keyD i with
      | some q => if q.ofT == t && decide (kvs.length < LMAX) then some (S.set n (.dct t (putA q v kvs))) else none
      | none => none
    | _ => none
  | _ => none
def augI (op : BOp) (a : Int) (d : D) : Option Int :=
  match op, d with
  | .add, .int b => some (a + b)
  | .sub, .int b => some (a - b)
  | _, _ => none
def asgN : List Nat → List D → Env → Option Env
  | [], [], ρ => some ρ
  | i :: is, d :: ds, ρ => asgN is ds (ρ.set i (some d))
  | _, _, _ => none
def forRun (src : Src) (g : G) (body : Env → Store → RS) : List D → Nat → Env → Store → RS
  | [], i, ρ, S => match src.fin i S with
    | some S' => .nx ρ S'
    | none => .no
  | x :: xs, i, ρ, S => match src.cur i x S with
    | some y => match asgG g y ρ with
      | some ρ1 => match body ρ1 S with
        | .nx ρ2 S2 => forRun src g body xs (i + 1) ρ2 S2
        | .ct ρ2 S2 => forRun src g body xs (i + 1) ρ2 S2
        | .bk ρ2 S2 => .nx ρ2 S2
        | r => r
      | none => .no
    | none => .no
def whileRun (test : Env → Store → R Bool) (body : Env → Store → RS) : Nat → Env → Store → RS
  | 0, _, _ => .no
  | n + 1, ρ, S => (test ρ S).toS ρ fun k S1 => if k then
      match body ρ S1 with
      | .nx ρ2 S2 => whileRun test body n ρ2 S2
      | .ct ρ2 S2 => whileRun test body n ρ2 S2
      | .bk ρ2 S2 => .nx ρ2 S2
      | r => r
    else .nx ρ S1
section
variable (c : Nat → List D → Store → R D) (fuel : Nat)
mutual
def semS : Sm → Env → Store → RS
  | .asg g e, ρ, S => if e.isX = true then (semX c e ρ S).toX ρ fun d S1 => match asgG g d ρ with
      | some ρ' => .nx ρ' S1
      | none => .no
    else (semE c e ρ S).toS ρ fun d S1 => match asgG g d ρ with
      | some ρ' => .nx ρ' S1
      | none => .no
  | .par is es, ρ, S => (semL c es ρ S).toS ρ fun ds S1 => match asgN is ds ρ with
    | some ρ' => .nx ρ' S1
    | none => .no
  | .put o i e, ρ, S => (semE c e ρ S).toS ρ fun v S1 => (semE c o ρ S1).toS ρ fun x S2 => (semE c i ρ S2).toS ρ fun y S3 => match putD x y v S3 with
    | some S4 => .nx ρ S4
    | none => .no
  | .aug i op e, ρ, S => match ρ.getD i none with
    | some (.int a) => (semE c e ρ S).toS ρ fun d S1 => match augI op a d with
      | some z => .nx (ρ.set i (some (.int z))) S1
      | none => .no
    | _ => .no
  | .ifs t a b, ρ, S => (semT c t ρ S).toS ρ fun k S1 => if k then semB a ρ S1 else semB b ρ S1
  | .for_ g it b, ρ, S => (semI c it ρ S).toS ρ fun src S1 => forRun src g (semB b) src.items 0 ρ S1
  | .while_ t b, ρ, S => whileRun (semT c t) (semB b) fuel ρ S
  | .ret e, ρ, S => if e.isX = true then (semX c e ρ S).toX ρ fun d S1 => .rt d S1 else (semE c e ρ S).toS ρ fun d S1 => .rt d S1
  | .reti t a b, ρ, S => (semT c t ρ S).toS ρ fun k S1 => if k then (if a.isX = true then (semX c a ρ S1).toX ρ fun d S1 => .rt d S1 else .no) else if b.isX = true then (semX c b ρ S1).toX ρ fun d S1 => .rt d S1 else .no
  | .retN, _, S => .rt .non S
  | .exp e, ρ, S => if e.isX = true then (semX c e ρ S).toX ρ fun _ S1 => .nx ρ S1 else (semE c e ρ S).toS ρ fun _ S1 => .nx ρ S1
  | .raise k es, ρ, S => (semL c es ρ S).toS ρ fun ds S1 => match ds with
    | [d] => .ex k d ρ S1
    | _ => .no
  | .try_ b k i j val, ρ, S => match semB b ρ S with
    | .ex q v ρ1 S1 => if (k = 0 ∨ k = q) ∧ i < ρ1.length then .nx ((ρ1.set j (some (if val then v else .exc q v))).set i none) S1 else .no
    | r => r
  | .bad, _, _ => .no
  | .pass, ρ, S => .nx ρ S
  | .brk, ρ, S => .bk ρ S
  | .cnt, ρ, S => .ct ρ S
def semB : B → Env → Store → RS
  | .nil, ρ, S => .nx ρ S
  | .cons s r, ρ, S => match semS s ρ S with
    | .nx ρ' S' => semB r ρ' S'
    | x => x
end
end
/-- a def: how many names, parameters; whether what it hands back stays live; its body -/
structure Def where
  names : Nat
  pars : Nat
  keep : Bool
  body : B
def startE (d : Def) (as : List D) : Env := as.map some ++ List.replicate (d.names - as.length) none
def finD (keep : Bool) (base : Nat) (v : D) (S : Store) : R D :=
  if (keep || S.length == base) = true then .ok v S else
    match flat S base 4 v with
    | some x => if x.cl base && (S.take base).all (Ob.cl base) then .ok x (S.take base) else .no
    | none => .no
/-- an exception that leaves a frame -/
def finX (base : Nat) (k : Nat) (v : D) (S : Store) : R D :=
  match finD false base v S with
  | .ok x S' => .ex k x S'
  | _ => .no
/-- a call at depth n -/
def call (P : List Def) (fuel : Nat) : Nat → Nat → List D → Store → R D
  | 0, _, _, _ => .no
  | n + 1, f, as, S => match P[f]? with
    | some d => if as.length = d.pars then
        match semB (call P fuel n) fuel d.body (startE d as) S with
        | .nx _ S' => finD d.keep S.length .non S'
        | .rt v S' => finD d.keep S.length v S'
        | .ex k v _ S' => finX S.length k v S'
        | _ => .no
      else .no
    | none => .no
end LH

namespace LH
open PySem PySem.W L2 PySem.Spec PyProof.Rows
/-! ## an own exception's __init__: super().__init__(value); self.value = value -/
section
variable {P : Program} {w : World} {A : Around} {E : Value → Shared → Prop} {K : Frag} {g : Heap} {L : Addr} {m mg mb : Str → Option Value} {news : List (Addr × Obj)}
/-- super() in a def of the class at D, its first argument an instance of C -/
theorem sup_base {s : Shared} {body : List Stmt} {q : Str} {sc : Scope} {p0 p1 : Pos} {whole : Sem Value} {fd : FuncData} {ar : Arg} {vs : Array Value} {file : Str} {tf : Tok} {fI cda cc C D x : Addr} {oc ccl cl : Value} {od cdd cld : Option Addr} {osl ccs csl : Array (Option Value)} {cdD : ClassData} {ox : Obj} {odx : Option Obj} {Q : Value → Shared → Prop}
    (F : Fr g L s.heap m) (XK : K.In g) (N : News g L s.heap news) (hg : g.Ns mainGlobals mg) (hb : g.Ns builtinsNs mb) (hbb : mb "super" = some (.type "super")) (hs : mg "super" = none)
    (l1 : K.lookup fI = some ⟨oc, od, .func fd, osl⟩) (l2 : (fd.params.posonlyargs ++ fd.params.args).head? = some ar) (hv : m ar.arg = some (.ref x)) (I : InstAt s.heap x ox C odx)
    (l3 : K.lookup cda = some ⟨ccl, cdd, .fields vs, ccs⟩) (l4 : vs[2]? = some (.str file tf)) (l5 : ((P.main.file : Str) == file) = true) (l6 : K.lookup cc = some ⟨cl, cld, .cell (some (.ref D)), csl⟩) (l7 : clsIn K D = some cdD) (l8 : mroIn K C (.ref D) = some true)
    (n1 : sc.names.lookup ("super" : Str) = some .globalImplicit) (n2 : sc.names.lookup ("__class__" : Str) = some .free) (n3 : sc.names.lookup ar.arg = some .local) (n4 : sc.kind = .function) (l9 : (P.main.scope.names.lookup ("super" : Str)).isSome = false)
    (h : ∀ so h1, Fr g L h1 m → News g L h1 ((so, ks_superObj D x C) :: news) → (∀ p ∈ news, p.1 < so) → Q (.ref so) { s with heap := h1 }) :
    _root_.PySem.wpAt (model P w) A (.func body (ksEnv q sc L fI (.ref cda) cc)) (attributeBase (.Call (.Name "super" p0) [] [] p1) "__init__" (ksEnv q sc L fI (.ref cda) cc) whole) Q E s := by
  have XH : K.In s.heap := XK.keeps F.keep
  obtain ⟨oD, e1, e2⟩ : ∃ oD, s.heap.get? D = some oD ∧ oD.data = .cls cdD := by
    unfold clsIn at l7
    split at l7
    · rename_i c d cd' sl ho
      cases l7
      exact ⟨_, XH _ _ ho, rfl⟩
    · cases l7
  obtain ⟨hh, gs, dr, t, os⟩ := s
  refine ks_wpAt_super_base (env := ksEnv q sc L fI (.ref cda) cc) n1 n2 (by decide) rfl (XH _ _ l1) rfl l2 rfl (XH _ _ l3) rfl l4 l5 l9 ?_
  refine ks_loadName_global n4 n1 (PySem.Calls.loadGlobal_builtin (env := ksEnv q sc L fI (.ref cda) cc) (hg.keeps F.keep) hs (hb.keeps F.keep) hbb ⟨rfl, ?_⟩)
  refine wpAny_loadName_free n4 n2 rfl ⟨_, XH _ _ l6, rfl⟩ (wpAny_loadName_local n4 n3 F.ns hv (ks_wpAny_isType_cls e1 e2 ⟨rfl, ?_⟩))
  refine ks_wpAny_call_super e1 e2 I.at_ I.cls (fun c e => ?_) (looks_mroIn XH l8) fun h1 e3 k => ?_
  · have z := I.no
    unfold notCls at z
    rw [e] at z
    exact Bool.noConfusion z
  · obtain ⟨F1, N1, l⟩ := ks_newsPush (s := ⟨hh, gs, dr, t, os⟩) F N rfl e3 k
    exact h _ _ F1 N1 l
end
/-- the base class at D of the program's own exceptions: its __init__ is the def at fI -/
def xiBody (p0 p1 p2 p3 p4 p5 p6 p7 p8 p9 : Pos) : List Stmt := [.Expr (.Call (.Attribute (.Call (.Name "super" p0) [] [] p1) "__init__" p2) [.Name "value" p3] [] p4) p5, .Assign [.Attribute (.Name "self" p6) "value" p7] (.Name "value" p8) p9]
structure XBase (P : Program) (K : Frag) (D fI : Addr) : Prop where
  ex : ∃ (qual : Str) (params : Arguments) (p0 p1 p2 p3 p4 p5 p6 p7 p8 p9 : Pos) (sc : Scope) (dV kV doc pm : Value) (an : Option Addr) (cda cc : Addr) (ct oc : Value) (od : Option Addr) (osl : Array (Option Value)) (vs : Array Value) (file : Str) (tf : Tok) (ccl cl : Value) (cdd cld : Option Addr) (ccs csl : Array (Option Value)) (cdD : ClassData) (ar : Arg),
    K.lookup fI = some ⟨oc, od, .func (ksFn "__init__" qual params (xiBody p0 p1 p2 p3 p4 p5 p6 p7 p8 p9) sc dV kV doc pm an (.ref cda) ct cc), osl⟩ ∧ codeIn K (.ref cda) qual = true ∧ K.lookup cda = some ⟨ccl, cdd, .fields vs, ccs⟩ ∧ vs[2]? = some (.str file tf) ∧ ((P.main.file : Str) == file) = true ∧
    K.lookup cc = some ⟨cl, cld, .cell (some (.ref D)), csl⟩ ∧ clsIn K D = some cdD ∧ (params.posonlyargs ++ params.args).head? = some ar ∧ ar.arg = "self" ∧ (P.main.scope.names.lookup ("super" : Str)).isSome = false ∧ (p2.endLine == p4.line) = true ∧
    sc.names.lookup ("super" : Str) = some .globalImplicit ∧ sc.names.lookup ("__class__" : Str) = some .free ∧ sc.names.lookup ("self" : Str) = some .local ∧ sc.names.lookup ("value" : Str) = some .local ∧ (∀ x ∈ sc.names, x.2 ≠ .cell) ∧ sc.kind = .function ∧ sc.isCoroutine = false ∧ sc.isGenerator = false ∧
    ∀ u1 u2 : Value, bindArgs (ksFn "__init__" qual params (xiBody p0 p1 p2 p3 p4 p5 p6 p7 p8 p9) sc dV kV doc pm an (.ref cda) ct cc) ⟨[u1, u2], []⟩ = (pure [(("self" : Str), u1), (("value" : Str), u2)] : Sem (List (Str × Value)))
  par : nsIn K cStatics "thirdparty.any" = some none
/-- a class at C over it -/
structure XCls (K : Frag) (D fI : Addr) (nm : Str) (C : Addr) : Prop where
  cls : ∃ q N bs sn sub ab col dd k0 k1 k2 k3 k5, K.lookup C = some (excClassObj nm q C N bs (.ref D :: HandSPX.veTail) true sn sub ab col dd k0 k1 k2 k3 k5 "ValueError.__new__")
  ini : findIn K (.ref C) "__init__" = some (some (.ref fI))
  sa : findIn K (.ref C) "__setattr__" = some (some (.builtin "object.__setattr__"))
  va : findIn K (.ref C) "value" = some none
  ga : findIn K (.ref C) "__getattribute__" = some (some (.builtin "BaseException.__getattribute__"))
  gg : findIn K (.ref C) "__getattr__" = some none
  cl : findIn K (.ref C) "__class__" = some (some (.builtin "object.__class__"))
  sp : specialIn K (.builtin "object.__class__") "__get__" = some (some (.builtin "getset_descriptor.__get__"))
  tk : takesIn K (.builtin "object.__class__") = some true
  exC : subIn K (.ref C) (.type "BaseException") = some true
  veC : subIn K (.ref C) (.type "ValueError") = some true
  tyC : typeIn K (.ref C) = some (.type "type")
  kC : keepIn K (.ref C) = true
  mD : mroIn K C (.ref D) = some true
  mo : mroIn K C (.type "object") = some true
  hd : hasDictIn K C = true
  ty : typeIn K (.ref fI) = some (.type "function")
  ne : C ≠ D
theorem along_ve (K : Frag) : alongIn K "__init__" HandSPX.veTail = some (some (.builtin "ValueError.__init__")) := by kernel_rfl
section
variable {P : Program} {w : World} {A : Around} {K : Frag} {nm : Str} {D fI C e t : Addr} {u : Value} {base : Heap} {mg : Str → Option Value} {s : Shared} {R : Result → Shared → Prop}
theorem XCls.data (X : XCls K D fI nm C) : ∃ cd, clsIn K C = some cd ∧ HandSPX.refsVE cd.mro = true ∧ cd.hasDict = true ∧ cd.mro = .ref C :: .ref D :: HandSPX.veTail := by
  obtain ⟨q, N, bs, sn, sub, ab, col, dd, k0, k1, k2, k3, k5, h⟩ := X.cls
  refine ⟨_, by unfold clsIn; rw [h] <;> rfl, ?_, rfl, rfl⟩
  show HandSPX.refsVE HandSPX.veTail = true
  decide +kernel
theorem XCls.sup (X : XCls K D fI nm C) : ks_superIn K C D "__init__" = some (some (.builtin "ValueError.__init__")) := by
  obtain ⟨cd, h1, _, _, h2⟩ := X.data
  unfold ks_superIn
  rw [h1, Option.bind_some, h2]
  have n1 : (Value.ref C != Value.ref D) = true := by simpa using X.ne
  have e : (List.dropWhile (· != Value.ref D) (.ref C :: .ref D :: HandSPX.veTail)).drop 1 = HandSPX.veTail := by
    simp only [List.dropWhile_cons, n1, bne_self_eq_false, Bool.false_eq_true, if_true, if_false, List.drop_succ_cons, List.drop_zero]
  rw [e]
  exact along_ve K
theorem XCls.init (X : XCls K D fI nm C) : excInitIn K C HandSPX.veTail "ValueError.__new__" = true := by
  obtain ⟨q, N, bs, sn, sub, ab, col, dd, k0, k1, k2, k3, k5, h⟩ := X.cls
  unfold excInitIn
  rw [h]
  simp [excClassObj, excTail]
theorem call_sup {p0 p1 p2 p3 p4 : Pos} (hl : (p2.endLine == p4.line) = true) (env : PySem.Env) : eval (.Call (.Attribute (.Call (.Name "super" p0) [] [] p1) "__init__" p2) [.Name "value" p3] [] p4) env = (do
      let ov ← attributeBase (.Call (.Name "super" p0) [] [] p1) "__init__" env (eval (.Call (.Name "super" p0) [] [] p1) env)
      standAt p2.atName
      let (f, first) ← holding [ov] (getMethod ov "__init__" (do return (← importBound (.Call (.Name "super" p0) [] [] p1) env).getD true))
      callWith p4 f first (backTo p4 (starEach [.Name "value" p3] env)) []) := by
  have e : methodCallPos true (.Call (.Name "super" p0) [] [] p1) env p2 p4 = pure p4 := by
    unfold methodCallPos
    rw [hl]
    rfl
  rw [arm_eval_Call]
  unfold methodCall
  have e2 : methodCallForm (([Expr.Name "value" p3].length : Nat) + ([] : List Keyword).length) (backTo p4 (starEach [.Name "value" p3] env)) (backToKw p4 (keywordEach [] env)) = true := rfl
  rw [e2, e]
  rfl
theorem init_run (Md : Mod K mg base) (hkb : ∀ b o, base.get? b = some o → s.heap.get? b = some o) (hen : base.get? e = none) (XB : XBase P K D fI) (XC : XCls K D fI nm C) (hs : mg "super" = none) (hro : A.depth < recursionLimit) (he : s.heap.get? e = some (HandSPX.excO C t))
    (h : ∀ s' t1 dx, (∀ b o, b ≠ e → s.heap.get? b = some o → s'.heap.get? b = some o) → s'.heap.get? e = some ({ cls := .ref C, dict := some dx, data := .fields #[.ref t1, .none, .none, .none, .bool false, .none] } : Obj) → s.heap.objs.size ≤ dx → s'.heap.Ns1 dx (fun y => if y = "value" then some u else none) →
      s'.gens = s.gens → s'.os = s.os → R (.ok (.ret .none)) s') : codeAny (model P w) A (.call (.ref fI) ⟨[.ref e, u], []⟩) R s := by
  obtain ⟨qual, params, p0, p1, p2, p3, p4, p5, p6, p7, p8, p9, sc, dV, kV, doc, pm, an, cda, cc, ct, oc, od, osl, vs, file, tf, ccl, cl, cdd, cld, ccs, csl, cdD, ar, l1, l2, l3, l4, l5, l6, l7, l8, l9, l10, l11, n1, n2, n3, n4, n5, n6, n7, n8, bnd⟩ := XB.ex
  obtain ⟨kd, nms, ig, ic, mr⟩ := sc
  dsimp only at n1 n2 n3 n4 n5 n6 n7 n8
  subst n6 n7 n8
  obtain ⟨cd, c1, c2, c3, c4⟩ := XC.data
  obtain ⟨mb, hb1, hb2⟩ := Md.blt
  have hsup : mb "super" = some (.type "super") := (hb2 _ (by decide +kernel)).trans (by decide +kernel)
  obtain ⟨g, hgd⟩ : ∃ g, g = hideAll s.heap [e] := ⟨_, rfl⟩
  have gs : g.objs.size = s.heap.objs.size := by rw [hgd]; exact hideAll_size _ _
  have gk : ∀ b o, b ≠ e → s.heap.get? b = some o → g.get? b = some o := fun b o hb q => by rw [hgd]; exact hideAll_get _ q (by simpa using hb)
  have go : ∀ b o, g.get? b = some o → s.heap.get? b = some o := fun b o q => of_hideAll [e] (by rw [← hgd]; exact q)
  have ge : g.get? e = none := by rw [hgd]; exact hideAll_none _ (by simp)
  have bg : ∀ b o, base.get? b = some o → g.get? b = some o := fun b o q => gk b o (fun z => by rw [z, hen] at q; cases q) (hkb b o q)
  have XK : K.In g := Md.kin.keeps bg
  have XS : K.In s.heap := Md.kin.keeps hkb
  refine ks_codeAny_call_defAt (fd := ksFn "__init__" qual params (xiBody p0 p1 p2 p3 p4 p5 p6 p7 p8 p9) ⟨.function, nms, false, false, mr⟩ dV kV doc pm an (.ref cda) ct cc) (binds := [("self", .ref e), ("value", u)]) hro (XS _ _ l1) rfl (Md.nolimit.keeps hkb) (codeRec_of XS l2) rfl (.of_eq (bnd _ _)) n5
    (fun x hx => ?_) (fun h₀ hns hk₁ => ?_) rfl rfl rfl
  · rcases List.mem_cons.mp hx with rfl | hx
    · exact n3
    · rcases List.mem_cons.mp hx with rfl | hx
      · exact n4
      · cases hx
  have F0 : Fr g s.heap.objs.size h₀ _ := ⟨hns, fun b o q => hk₁ b o (go b o q), Nat.le_of_eq gs⟩
  have N0 : News g s.heap.objs.size h₀ [(e, excObj C t none .none)] := fun p hp => by
    rcases List.mem_cons.mp hp with rfl | hp
    · exact ⟨hk₁ _ _ he, Nat.ne_of_lt (Heap.lt_size he), ge⟩
    · cases hp
  refine ks_wpAt_execs_cons (ks_wpAt_Expr_any (ks_wpAt_MethodCall (sup_base F0 XK N0 (Md.glob.keeps bg) (hb1.keeps bg) hsup hs l1 l8 (x := e) (by rw [l9]; rfl) (InstAt.of_exc0 (t := t) (c2 := .none) N0 (.head _)) l3 l4 l5 l6 l7 XC.mD n1 n2 (by rw [l9]; exact n3) rfl l10 fun so h1 F1 N1 lt1 => ?_) (call_sup l11 _)) rfl rfl)
  have so_e : so ≠ e := Nat.ne_of_gt (lt1 (e, excObj C t none .none) (.head _))
  refine kxs_method kxs_ValueError F1 XK N1 (D := D) (C := C) (x := e) (.head _) (InstAt.of_exc0 (t := t) (c2 := .none) N1 (.tail _ (.head _))) XB.par XC.sup XC.veC (by decide) fun q h2 F2 N2 lt2 => ?_
  have q_e : q ≠ e := Nat.ne_of_gt (lt2 (e, excObj C t none .none) (.tail _ (.head _)))
  refine kxs_callWith1 (i := "ValueError.__init__") (x := e) N2 (.head _) ?_ rfl rfl
  show wpAny _ _ (spliced ((false, eval (.Name "value" p3) _) :: [])) _ _ _
  refine PySem.Calls.spliced_cons (wpAny_Name (wpAny_loadName_local rfl n4 F2.ns rfl (PySem.Calls.spliced_nil ⟨kxs_at N2 (.head _), ?_⟩)) (by decide))
  refine kxs_call (newId := "ValueError.__new__") F2 XK N2 F.excBase_ValueError XC.init (.head _) (.tail q_e (.tail so_e (.head (fun _ z => nomatch z)))) (by show 1 ≤ sizeLine; rw [sizeLine_eq]; omega) fun t1 h3 F3 N3 lt3 => ?_
  have e3 := (N3 (e, excObj C t1 none .none) (.tail _ (.tail _ (.tail _ (.head _))))).1
  have K3 : K.In h3 := XK.keeps F3.keep
  refine ks_wpAt_execs_cons (ks_wpAt_Assign_Attr (wpAt_of_wpAny (wpAny_Name (wpAny_loadName_local rfl n4 F3.ns rfl (wpAny_Name (wpAny_loadName_local rfl n3 F3.ns rfl ?_) (by decide))) (by decide))) rfl)
  refine PySem.W.set_plain K3 (ox := excObj C t1 none .none) (od := none) ⟨e3, rfl, rfl, trivial⟩ XC.sa ?_
  refine HandSPX.exc_osa K3 e3 c1 c2 c3 XC.va fun h4 tk dx k4 d1 d2 e4 n4' => ?_
  refine wpAt_of_wpAny (wpAny_execs_nil ?_)
  have dn : s.heap.objs.size ≤ dx := Nat.le_trans (Nat.le_of_lt F3.ns.lt) d1
  exact h _ _ _ (fun b o hb q => k4 b o hb (F3.keep _ _ (gk b o hb q))) e4 dn n4' rfl rfl
end
section
variable {X : Cx} {nm : Str} {D fI C : Addr} {x : Str} {e : Expr} {te : TE} {p pos : Pos}
/-- C(e) -/
def tMkX (C : Addr) (te : TE) : L2.St → Hp → XK → Prop := fun σ H Q => te σ H fun v H1 => ∀ d, H1 d = none → Q (.ref C) (some d) (upd H1 d (.xd [("value", v)]))
theorem pmk_x (XB : XBase X.prog X.K D fI) (XC : XCls X.K D fI nm C) (hs : X.mg "super" = none) (hr : Room 2 X.A) (hg : Gl X x) (hm : X.mg x = some (.ref C)) (he : PE X e te)
    (hdb : (x == ("__debug__" : Str)) = false) (h1 : starEach [e] X.env = (false, eval e X.env) :: starEach [] X.env) : PMk X (.Call (.Name x p) [e] [] pos) (tMkX C te) := by
  intro pins s σ H Q I h
  obtain ⟨q, N, bs, sn, sub, ab, col, dd, k0, k1, k2, k3, k5, hC⟩ := XC.cls
  refine wpAny_Call_Name_kw (ld_glob I hg hm ?_ hdb)
  have ha : PA X [e] (tCons te tNil) := pa_cons he pa_nil h1
  refine PySem.W.callWith_K (h₀ := X.base) I.ok.mod.kin XC.kC (thn (ha.run pos pins s σ H (fun vs H1 => match vs with
    | [v] => ∀ d, H1 d = none → Q (.ref C) (some d) (upd H1 d (.xd [("value", v)]))
    | _ => False) I h) fun us s1 hh => ?_) h1 rfl
  obtain ⟨vs, H1, I1, r1, q1⟩ := hh
  refine ⟨I1.kIn, ?_⟩
  match vs, r1, q1 with
  | [v], r1, q1 =>
    cases r1 with
    | @cons _ u _ ur ru rn =>
      cases rn
      show wpAny _ _ (PySem.call (.ref C) [u]) _ _ _
      obtain ⟨hp, g, dr, tk, os⟩ := s1
      have kk : ∀ b o, hp.get? b = some o → ((hp.push (PySem.W.kdv_tup [u])).push (PySem.HandSPX.excO C hp.objs.size)).get? b = some o := fun b o e => Heap.get?_push_of_some _ (Heap.get?_push_of_some _ e)
      have hget : ((hp.push (PySem.W.kdv_tup [u])).push (PySem.HandSPX.excO C hp.objs.size)).get? (hp.objs.size + 1) = some (PySem.HandSPX.excO C hp.objs.size) := by heap_get
      have hsz : ((hp.push (PySem.W.kdv_tup [u])).push (PySem.HandSPX.excO C hp.objs.size)).objs.size = hp.objs.size + 2 := by rw [Heap.size_push, Heap.size_push]
      have hen : X.base.get? (hp.objs.size + 1) = none := by
        cases z : X.base.get? (hp.objs.size + 1) with
        | none => rfl
        | some o =>
          have := Heap.lt_size (I1.bk _ _ z)
          exact absurd (Nat.lt_of_succ_lt this) (Nat.lt_irrefl _)
      refine wpAny_call (PySem.HandSPX.call_own F.excBase_ValueError (fun Y => PySem.HandSPX.refsVE_contains Y (.ref D :: PySem.HandSPX.veTail) (by show PySem.HandSPX.refsVE PySem.HandSPX.veTail = true; decide +kernel)) (I1.kIn _ _ hC) (PySem.W.looks_findIn I1.kIn XC.ini) (fun self => PySem.W.bind_fn I1.kIn self XC.ty) (by show 1 ≤ sizeLine; rw [sizeLine_eq]; omega) ?_)
      refine init_run I1.ok.mod (fun b o z => kk b o (I1.bk b o z)) hen XB XC hs (hr.make C [u] []).depth hget fun s2 t1 dx k2 e2 d2 n2 g2 o2 => ⟨rfl, ?_⟩
      have d2' : hp.objs.size ≤ dx := by
        have : ((hp.push (PySem.W.kdv_tup [u])).push (PySem.HandSPX.excO C hp.objs.size)).objs.size ≤ dx := d2
        rw [hsz] at this
        exact Nat.le_trans (Nat.le_add_right _ 2) this
      have dne : dx ≠ hp.objs.size + 1 := by
        have : ((hp.push (PySem.W.kdv_tup [u])).push (PySem.HandSPX.excO C hp.objs.size)).objs.size ≤ dx := d2
        rw [hsz] at this
        exact Nat.ne_of_gt this
      have dn : H1 dx = none := I1.hok.fresh d2'
      have an : H1 (hp.objs.size + 1) = none := I1.hok.fresh (Nat.le_succ _)
      obtain ⟨h2, gg2, dr2, tk2, os2⟩ := s2
      obtain ⟨G, gr1, gr2⟩ := restrict h2 fun b => decide (b ≠ hp.objs.size + 1)
      have gk : ∀ b, b ≠ hp.objs.size + 1 → G.get? b = h2.get? b := fun b hb => gr1 b (decide_eq_true hb)
      have ge : G.get? (hp.objs.size + 1) = none := gr2 _ (by simp)
      have kG : ∀ b o, hp.get? b = some o → G.get? b = some o := fun b o z => by
        have nb : b ≠ hp.objs.size + 1 := Nat.ne_of_lt (Nat.lt_succ_of_lt (Heap.lt_size z))
        rw [gk b nb]
        exact k2 b o nb (kk b o z)
      have oG : ∀ b o, G.get? b = some o → h2.get? b = some o := fun b o z => by
        by_cases hb : b = hp.objs.size + 1
        · rw [hb, ge] at z; cases z
        · rw [← gk b hb]; exact z
      have new : ObjOk X.prog X.w (upd H1 dx (.xd [("value", v)])) G dx (.xd [("value", v)]) := ⟨_, n2.at fun o z => (gk dx dne).trans z, relO_put (fs := []) ru fun _ => True.intro⟩
      obtain rfl : gg2 = g := g2
      obtain rfl : os2 = os := o2
      have J := I1.laid (t' := tk2) (h' := G) (a := dx) (o := .xd [("value", v)]) kG d2' new
      exact ⟨hp.objs.size + 1, _, _, ⟨G, gg2, dr, tk2, os2⟩, _, .ref C, some dx, rfl, J, oG, ge, e2, ⟨rfl, rfl⟩, rfl, rfl, (upd_ne (Ne.symm dne)).trans an, rfl, I1.bare, raises_own XC.exC XC.tyC, q1 dx dn⟩
  | [], _, q1 => exact q1.elim
  | _ :: _ :: _, _, q1 => exact q1.elim
end
end LH

namespace LH
open PySem PySem.W L2 PySem.Spec PyProof.Rows
/-- the package's own exceptions -/
def xNames : List Str := ["LottoError", "InvalidName", "InvalidNumber", "InvalidFraction", "InvalidLot", "InvalidList", "InvalidText", "TooMany", "InvalidLottery", "InvalidChoice", "InvalidDraw", "InvalidTickets", "InvalidPaper", "InvalidPrizes", "InvalidShares", "InvalidDraws", "InvalidAnswers", "InvalidCards", "InvalidRaffle", "InvalidOrder", "InvalidHabits", "InvalidStakes", "InvalidPlan", "InvalidWheel", "InvalidWheels", "InvalidDraft", "InvalidKept", "InvalidEdit", "NothingToUndo", "NothingToRedo"]
def xName (k : Nat) : Str := xNames.getD k ""
theorem xName_inj : ∀ k ∈ List.range 30, ∀ j ∈ List.range 30, xName k = xName j → k = j := by decide +kernel
/-- their base, at D -/
structure XTop (K : Frag) (D : Addr) : Prop where
  at_ : nsIn K mainGlobals (xName 0) = some (some (.ref D))
  cls : (clsIn K D).isSome = true
  ty : typeIn K (.ref D) = some (.type "type")
  ex : subIn K (.ref D) (.type "BaseException") = some true
/-- the class k, at C -/
structure XKn (K : Frag) (k : Nat) (C : Addr) : Prop where
  at_ : nsIn K mainGlobals (xName k) = some (some (.ref C))
  cls : ∃ D fI, XCls K D fI (xName k) C ∧ XTop K D
  lt : k < 30
section
variable {K : Frag} {k j : Nat} {C C2 D : Addr}
theorem XKn.data (h : XKn K k C) : (clsIn K C).isSome = true ∧ typeIn K (.ref C) = some (.type "type") := by
  obtain ⟨D, fI, x, _⟩ := h.cls
  obtain ⟨cd, e, _⟩ := x.data
  exact ⟨by rw [e]; rfl, x.tyC⟩
theorem kitCls_ref {t : Value} (h1 : (clsIn K C2).isSome = true) (h2 : typeIn K (.ref C2) = some (.type "type")) : kitCls K t (.ref C2) = subIn K t (.ref C2) := by
  unfold kitCls
  simp only [h1, h2]
  rfl
theorem kit_xx (h1 : XKn K k C) (h2 : XKn K j C2) : kitOne K (.ref C) (.ref C2) = some (decide (k = j)) := by
  obtain ⟨D, fI, x1, t1⟩ := h1.cls
  obtain ⟨D2, fI2, x2, t2⟩ := h2.cls
  have eD : D = D2 := by
    have := t1.at_.symm.trans t2.at_
    cases this; rfl
  by_cases e : C = C2
  · subst e
    obtain ⟨_, _, _, _, _, _, _, _, _, _, _, _, _, a⟩ := x1.cls
    obtain ⟨_, _, _, _, _, _, _, _, _, _, _, _, _, b⟩ := x2.cls
    rw [a] at b
    have nm : xName k = xName j := by
      simp only [excClassObj, Option.some.injEq, Obj.mk.injEq, Data.cls.injEq, ClassData.mk.injEq] at b
      exact b.2.2.1.1
    have kj := xName_inj k (List.mem_range.mpr h1.lt) j (List.mem_range.mpr h2.lt) nm
    unfold kitOne
    simp [kj]
  · have ne : k ≠ j := fun z => by
      subst z
      have := h1.at_.symm.trans h2.at_
      cases this
      exact e rfl
    unfold kitOne
    have e1 : (Value.ref C == Value.ref C2) = false := by simpa using e
    rw [e1, kitCls_ref h2.data.1 h2.data.2]
    show (if false = true then some true else mroIn K C (.ref C2)) = _
    obtain ⟨cd, d1, _, _, d2⟩ := x1.data
    unfold mroIn
    rw [d1, Option.bind_some, d2]
    have e3 : (Value.ref C2 == Value.ref C) = false := by simpa using fun z : C2 = C => e z.symm
    have e4 : (Value.ref C2 == Value.ref D) = false := by
      rw [eD]
      simpa using x2.ne
    have e5 : (HandSPX.veTail.contains (Value.ref C2)) = false := rfl
    simp only [List.contains_cons, e3, e4, e5, ne, decide_false]
    rfl
theorem kit_xt (h1 : XKn K k C) (h2 : XTop K D) : kitOne K (.ref C) (.ref D) = some true := by
  obtain ⟨D1, fI, x1, t1⟩ := h1.cls
  have eD : D1 = D := by
    have := t1.at_.symm.trans h2.at_
    cases this; rfl
  subst eD
  unfold kitOne
  rw [kitCls_ref h2.cls h2.ty]
  split
  · rfl
  · exact x1.mD
theorem kit_xv (h1 : XKn K k C) : kitOne K (.ref C) (.type "ValueError") = some true := by
  obtain ⟨D1, fI, x1, t1⟩ := h1.cls
  have e : kitMeta "ValueError" = true := by decide +kernel
  unfold kitOne
  rw [if_neg (by simp)]
  unfold kitCls
  dsimp only
  rw [if_pos e]
  exact x1.veC
theorem none_mro : fastBuiltinMro "NoneType" = some [.type "NoneType", .type "object"] := by decide +kernel
theorem kit_nx (h1 : (clsIn K C2).isSome = true) (h2 : typeIn K (.ref C2) = some (.type "type")) : kitOne K (.type "NoneType") (.ref C2) = some false := by
  unfold kitOne
  rw [kitCls_ref h1 h2, if_neg (by simp)]
  show (fastBuiltinMro "NoneType").map _ = _
  rw [none_mro]
  rfl
theorem kit_nv : kitOne K (.type "NoneType") (.type "ValueError") = some false := by
  unfold kitOne
  rw [if_neg (by simp)]
  unfold kitCls
  dsimp only
  rw [if_pos (by decide +kernel)]
  show (fastBuiltinMro "NoneType").map _ = _
  rw [none_mro]
  rfl
/-- what an except clause asks -/
theorem exm_x {c : Value} (h : subIn K c (.type "BaseException") = some true) (e : kitCls K (.ref C) c = some true) : exmOne K (.ref C) c = some true := by
  unfold exmOne
  rw [h]
  exact e
end
/-! ## a caught exception that is kept -/
/-- at a: this very object -/
def kept (a : Addr) (oe : Obj) : HO := .ext fun h => h.get? a = some oe
section
variable {X : Cx} {pins : List (Addr × Obj)} {σ : L2.St} {H : Hp} {s : Shared} {a : Addr} {oe : Obj}
theorem inv_track (I : L2.Inv X ((a, oe) :: pins) σ H s) (h0 : X.s_0.heap.get? a = none) (np : ∀ p ∈ X.pn ++ pins, p.1 ≠ a) : L2.Inv X pins σ (upd H a (kept a oe)) s := by
  obtain ⟨e1, e2, e3, e4, e5⟩ := I.pin (a, oe) (List.mem_append_right _ (.head _))
  have e1 : s.heap.get? a = some oe := e1
  have e2 : H a = none := e2
  have nb : ∀ b o, X.s_0.heap.get? b = some o → b ≠ a := fun b o z e => by rw [e, h0] at z; cases z
  have new : ObjOk X.prog X.w (upd H a (kept a oe)) s.heap a (kept a oe) := ⟨e1, ⟨_, e1⟩, fun h1 h2 z k => k _ z⟩
  have nh : ∀ b u, X.H_0 b = some u → H b ≠ none → b ≠ a := fun b u _ z e => z (e ▸ e2)
  refine ⟨I.ok, I.os, I.bare, ⟨I.base.keep, I.base.slot, fun b o z n x => ?_, I.base.there, fun b xs z => ?_, fun b o u z => ?_, fun b ps z => ?_⟩, I.loc, I.cell, ?_, fun y c z => ?_, fun p hp => ?_, I.hok.laidN (fun _ _ z => z) e2 new, I.len⟩
  · rw [upd_ne (nb b o z)]; exact I.base.free b o z n x
  · have q := I.base.tups b xs z
    rw [upd_ne (nh b _ z (by rw [q]; simp))]; exact q
  · have q := I.base.frzs b o u z
    rw [upd_ne (nh b _ z (by rw [q]; simp))]; exact q
  · obtain ⟨m, q⟩ := I.base.tbls b ps z
    exact ⟨m, by rw [upd_ne (nh b _ z (by rw [q]; simp))]; exact q⟩
  · rw [upd_ne (Ne.symm e3)]; exact I.free
  · have nc : c ≠ a := fun e => by
      obtain ⟨v, ⟨o, z1, z2⟩⟩ := I.cell y c z
      rw [e, e1] at z1
      cases z1
      exact e5 _ z2
    rw [upd_ne nc]; exact I.freeC y c z
  · obtain ⟨p1, p2, p3, p4, p5⟩ := I.pin p (by
      rcases List.mem_append.mp hp with z | z
      · exact List.mem_append_left _ z
      · exact List.mem_append_right _ (.tail _ z))
    exact ⟨p1, by rw [upd_ne (np p hp)]; exact p2, p3, p4, p5⟩
end
/-- what a clause wishes that keeps what it caught -/
def wKp (K : Frag) (c : Value) (i : Nat) (ts : Addr → Value → Option Addr → TS) (Wout : WX) (D : Ends) : WX := fun cls d σ H => ∃ b, PySem.W.exmOne K cls c = some b ∧
  (b = true → ∀ a, H a = none → ts a cls d ⟨fun σ1 H1 => ∀ oe, L2.Zc cls d oe → (∃ vs, oe.data = .fields vs) → H1 a = none → D.nx (σ1.set i none) (upd H1 a (kept a oe)), fun _ _ => False, fun _ _ => False, fun _ _ => False⟩ (σ.set i (some (.ref a))) H) ∧ (b = false → Wout cls d σ H)
section
variable {X : Cx} {x n : Str} {c : Value} {i : Nat} {body suite : List Stmt} {b₀ : Stmt} {np pos pos' : Pos} {tb : WX → TS} {ts : Addr → Value → Option Addr → TS} {Wout : WX}
theorem ps_try_keep (hs : X.stack = X.env :: X.outer) (hf : X.env.frame = some X.env.locals) (hex : X.ex = []) (hN : X.N.Nodup) (hi : X.N[i]? = some n) (hln : X.env.kindOf n = some .local) (hc : L2.Names X x c) (tk : Takes X Wout)
    (hb : ∀ (W : WX) (pn : List (Addr × Obj)) (xe : Value → Shared → Prop), Takes (X.tr pn xe) W → PassesOwn (model X.prog X.w) X.A X.env xe → PSs (X.tr pn xe) body (tb W))
    (hsu : ∀ (a : Addr) (oe : Obj) (cls : Value) (d : Option Addr) (pn : List (Addr × Obj)), L2.Zc cls d oe → (∃ vs, oe.data = .fields vs) → PSs (X.suite a ((a, oe) :: pn)) (b₀ :: suite) (ts a cls d)) :
    PS X (.Try body [.ExceptHandler (some (.Name x np)) (some n) (b₀ :: suite) pos'] [] [] pos) (fun D σ H => tb (wKp X.K c i ts Wout D) D σ H) := by
  refine ⟨fun pins s σ H D I h => ?_⟩
  have okX := I.ok
  have frm : X.A.frames = some (X.env :: X.outer) := by rw [okX.frames, hs]
  have locN : Loc X.env.scope n := .inl hln
  refine wpAny_Try_except ?_
  refine wpAny_mono ((hb (wKp X.K c i ts Wout D) (X.pn ++ pins) (fun e g₁ => wpAny (model X.prog X.w) X.A (noteFrame e X.env) (fun _ g₂ => wpAny (model X.prog X.w) X.A (setFlight e none) (fun _ g₃ =>
    wpAny (model X.prog X.w) X.A (handleBy e X.env [.ExceptHandler (some (.Name x np)) (some n) (b₀ :: suite) pos']) (SP X pins D) X.xe g₃) X.xe g₂) X.xe g₁) (fun u g1 xx => ?_) PassesOwn.looking).run [] s σ H D (I.toTry _) h) (fun f g1 hsp => ?_) (fun e g1 he => he)
  · obtain ⟨a, B, sI, pin1, σ1, H1, cls, d, rfl, I1, nb, up, sky, na, os, ag, b, hb1, yes, no⟩ := xx
    have J := I1.ofTry okX
    have sk2 : L2.Sky B (X.env :: X.outer) a (L2.Zc cls d) X.env.locals g1.heap := by rw [← hs]; exact sky
    show wpAny (model X.prog X.w) X.A (noteFrame (.ref a) X.env) _ _ _
    refine L2.Sky.land L2.Zc.steady frm hf sk2 fun k3 fl3 up3 => ?_
    have J3 : L2.Inv X pins σ1 H1 { g1 with heap := k3 } := J.landed nb fl3.1 (up.trans up3) os ag
    obtain ⟨oe3, vs3, he3, hz3, hd3⟩ := fl3.there
    have noFr : ∀ {k : Heap} {o : Obj} {vs : Array Value}, k.FunFrames B (X.env :: X.outer) → k.get? a = some o → o.data = .fields vs → a ∉ frs (X.env :: X.outer) := fun {k o vs} ff q dd hm => by
      obtain ⟨_, o2, q2, hnf⟩ := ff.mem hm
      rw [q] at q2
      cases q2
      exact hnf _ dd
    have nfr := noFr fl3.2.2.1 he3 hd3
    have nL : a ≠ X.env.locals := fun z => nfr (List.mem_filterMap.mpr ⟨X.env, List.mem_cons_self, hf.trans (by rw [z])⟩)
    have nF : a ∉ X.fs := fun hm => by
      obtain ⟨fe, m1, m2⟩ := List.mem_filterMap.mp hm
      exact nfr (List.mem_filterMap.mpr ⟨fe, .tail _ m1, m2⟩)
    have bn : B.get? a = none := fl3.2.1
    have sn : sI.heap.get? a = none := by
      cases q : sI.heap.get? a with
      | none => rfl
      | some o =>
        have := nb a o q (by rw [hs]; exact nfr)
        rw [bn] at this; cases this
    have s0n : X.s_0.heap.get? a = none := by
      cases q : X.s_0.heap.get? a with
      | none => rfl
      | some o =>
        obtain ⟨o2, q2⟩ := J.base.there a o q (by rw [hex]; exact fun z => nomatch z)
        rw [sn] at q2; cases q2
    have pn_a : ∀ p ∈ X.pn ++ pins, p.1 ≠ a := fun p hp e => by
      have := (J.pin p hp).1
      rw [e, sn] at this; cases this
    have S3 := J3.suite he3 hd3 na nL nF
    refine wpAny_handleBy_cons (codeAny_handlers_test ?_) (by intro q; cases q)
    have LT : PySem.W.Looks (model X.prog X.w) k3 (typeOf (.ref a)) cls := fun A1 Q1 E1 s1 k q => wpAny_typeOf_ref (k _ _ he3) (by rw [hz3.1]; exact q)
    have LM := PySem.W.exm_one (M := model X.prog X.w) J3.kIn LT hb1
    have tst : ∀ {Q1 : Value → Shared → Prop} {E1 : Value → Shared → Prop}, Q1 c { g1 with heap := k3 } → wpAny (model X.prog X.w) (X.A.mark (some (.ref a))) (eval (.Name x np) X.env) Q1 E1 { g1 with heap := k3 } := fun {Q1 E1} q => by
      obtain ⟨hg, hdb, hm | ⟨hm, hv, hnn⟩⟩ := hc
      · exact L2.ld_glob (X := X.suite a ((a, oe3) :: (X.pn ++ pins))) S3 hg hm q hdb
      · exact L2.ld_blt (X := X.suite a ((a, oe3) :: (X.pn ++ pins))) S3 hg hm hv q hnn hdb
    refine tst (LM.here ?_)
    cases b with
    | true =>
      refine codeAny_handlers_suite_as ?_
      refine HandSPX.lands_againZ fl3 fun k4 fl4 up4 => ?_
      have J4 : L2.Inv X pins σ1 H1 { g1 with heap := k4 } := J.landed nb fl4.1 ((up.trans up3).trans up4) os ag
      obtain ⟨oe4, vs4, he4, hz4, hd4⟩ := fl4.there
      have S4 := J4.suite he4 hd4 na nL nF
      refine L2.store_ok (X := X.suite a ((a, oe4) :: (X.pn ++ pins))) (v := .ref a) S4 hN hi locN rfl (fun g5 S5 => ?_) (.inr hln)
      refine wpAny_mono ((hsu a oe4 cls d (X.pn ++ pins) hz4 ⟨_, hd4⟩).run [] g5 _ H1 _ S5 (yes rfl a na)) (fun f g6 hq => ?_) (fun _ _ z => False.elim z)
      cases f with
      | next =>
        obtain ⟨σ6, H6, S6, q6⟩ := hq
        have U6 := S6.unsuite okX
        have pa := S6.pin (a, oe4) (List.mem_append_left _ (.head _))
        have P6 : L2.Inv X ((a, oe4) :: pins) σ6 H6 g6 := U6.pins_of fun p hp => by
          rcases List.mem_cons.mp hp with e | hp
          · rw [e]; exact pa
          · exact U6.pin p (List.mem_append_right _ hp)
        exact L2.gone_ok P6 hN hi hln fun g7 J7 => ⟨_, _, inv_track J7 s0n pn_a, q6 oe4 hz4 ⟨_, hd4⟩ pa.2.1⟩
      | brk => obtain ⟨_, _, _, q6⟩ := hq; exact q6.elim
      | cont => obtain ⟨_, _, _, q6⟩ := hq; exact q6.elim
      | ret u => obtain ⟨_, _, _, _, _, q6⟩ := hq; exact q6.elim
    | false =>
      show wpAny _ X.A (handleBy (.ref a) X.env []) _ _ _
      refine wpAny_handleBy_nil ?_
      obtain ⟨_, _, _, oe, vs, T, oT, _, he, hz, hd, h1, hr⟩ := id fl3
      unfold PySem.passOn
      refine wpAny_bind (wpAny_field he hd h1 ?_)
      rw [if_neg (by simp : ¬ ((Value.ref T == Value.none) = true))]
      have fin : wpAny (model X.prog X.w) X.A (setFlight (.ref a) X.env.frame) (fun _ g4 => wpAny (model X.prog X.w) X.A (throw (.ref a) : Sem Flow) (SP X pins D) X.xe g4) X.xe { g1 with heap := k3 } := by
        rw [hf]
        refine HandSPX.setFlight_upZ fl3 fun k4 hh4 up4 => wpAny_throw (tk _ _ ?_)
        exact ⟨a, B, sI, pins, σ1, H1, cls, d, rfl, J, nb, (up.trans up3).trans up4, .inr (.inr (by rw [hs]; exact hh4)), na, os, ag, no rfl⟩
      first
        | exact wpAny_bind (wpAny_pure (wpAny_bind fin))
        | exact wpAny_bind fin
  · cases f with
    | next =>
      obtain ⟨_, _, J', q⟩ := hsp
      exact wpAny_execs_nil ⟨_, _, J'.ofTry okX, q⟩
    | brk =>
      obtain ⟨_, _, J', q⟩ := hsp
      exact ⟨_, _, J'.ofTry okX, q⟩
    | cont =>
      obtain ⟨_, _, J', q⟩ := hsp
      exact ⟨_, _, J'.ofTry okX, q⟩
    | ret u =>
      obtain ⟨_, _, _, J', r, q⟩ := hsp
      exact ⟨_, _, _, J'.ofTry okX, r, q⟩
end
end LH

namespace LH
open PySem PySem.W L2 PySem.Spec PyProof.Rows

/-- where things are: the abstract heap, what never changes, what is kept for somebody, the live objects' places -/
structure Tr where
  H : Hp
  fr : Addr → Prop
  pr : Addr → Prop
  mu : Nat → Addr
  N : Nat

def KL (K : Frag) (a : Addr) (vs : List V) : Prop := ∀ H, SqL K H a vs
/-- u is a dict of these keys and values -/
def DK (u : HO) (t : Bool) (ks : List KY) (vs : List V) : Prop :=
  (t = false ∧ ∃ kvs : List (Key × V), u = .dK kvs ∧ ks = kvs.map (fun p => KY.k p.1) ∧ vs = kvs.map (·.2)) ∨
  (t = true ∧ ∃ kvs : List (List Key × V), u = .dT kvs ∧ ks = kvs.map (fun p => KY.t p.1) ∧ vs = kvs.map (·.2))
section
variable (K : Frag)
mutual
def Rep (T : Tr) : D → V → Prop
  | .non, v => v = .non
  | .bl b, v => v = .bl b
  | .int i, v => v = .int i
  | .str x, v => v = .str x
  | .lst xs, v => ∃ a vs, v = .ref a ∧ T.fr a ∧ T.H a = some (.lst vs) ∧ RepL T xs vs
  | .tup xs, v => ∃ a vs, v = .ref a ∧ T.fr a ∧ T.H a = some (.tup vs) ∧ RepL T xs vs
  | .dct t ks ds, v => ∃ a u vs, v = .ref a ∧ T.fr a ∧ Rd T.H a u ∧ DK u t ks vs ∧ RepL T ds vs
  | .ref n, v => n < T.N ∧ v = .ref (T.mu n)
  | .fn x, v => ∃ a, v = .ref a ∧ nsIn K mainGlobals x = some (some (.ref a))
  | .exc k d, v => ∃ a dx C oe fs u, v = .ref a ∧ T.fr a ∧ T.H a = some (kept a oe) ∧ L2.Zc (.ref C) (some dx) oe ∧ (∃ vs, oe.data = .fields vs) ∧ XKn K k C ∧ T.fr dx ∧ T.H dx = some (.xd fs) ∧ fs.lookup ("value" : Str) = some u ∧ Rep T d u
  | .scr ns, v => ∃ a, v = .ref a ∧ ((T.fr a ∧ ∃ o, T.H a = some (.frz o (.lst (ns.map V.int)))) ∨ KL K a (ns.map V.int))
def RepL (T : Tr) : List D → List V → Prop
  | [], vs => vs = []
  | d :: ds, vs => ∃ v r, vs = v :: r ∧ Rep T d v ∧ RepL T ds r
end
end
def IsDict : HO → Prop
  | .dK _ => True
  | .dT _ => True
  | _ => False
structure Ext (T T' : Tr) : Prop where
  fr : ∀ a, T.fr a → T'.fr a
  hp : ∀ a u, T.fr a → T.H a = some u → T'.H a = some u ∨ (IsDict u ∧ ∃ o, T'.H a = some (.frz o u))
  pr : ∀ a, T.pr a → T'.pr a ∧ T'.H a = T.H a ∧ (T'.fr a → T.fr a)
  mu : ∀ n, n < T.N → T'.mu n = T.mu n
  N : T.N ≤ T'.N
/-- what a value's place leans on -/
structure Sub (T T' : Tr) : Prop where
  fr : ∀ a, T.fr a → T'.fr a
  hp : ∀ a u, T.fr a → T.H a = some u → T'.H a = some u ∨ (IsDict u ∧ ∃ o, T'.H a = some (.frz o u))
  mu : ∀ n, n < T.N → T'.mu n = T.mu n
  N : T.N ≤ T'.N
theorem Ext.sub {T T' : Tr} (e : Ext T T') : Sub T T' := ⟨e.fr, e.hp, e.mu, e.N⟩
theorem Ext.refl (T : Tr) : Ext T T := ⟨fun _ h => h, fun _ _ _ h => .inl h, fun _ h => ⟨h, rfl, fun z => z⟩, fun _ _ => rfl, Nat.le_refl _⟩
theorem Ext.trans {T T1 T2 : Tr} (a : Ext T T1) (b : Ext T1 T2) : Ext T T2 where
  fr := fun x h => b.fr x (a.fr x h)
  hp := fun x u h r => by
    rcases a.hp x u h r with z | ⟨d, o, z⟩
    · exact b.hp x u (a.fr x h) z
    · rcases b.hp x _ (a.fr x h) z with y | ⟨y, _⟩
      · exact .inr ⟨d, o, y⟩
      · exact y.elim
  pr := fun x h => by
    obtain ⟨h1, e1, f1⟩ := a.pr x h
    obtain ⟨h2, e2, f2⟩ := b.pr x h1
    exact ⟨h2, e2.trans e1, fun z => f1 (f2 z)⟩
  mu := fun n h => (b.mu n (Nat.lt_of_lt_of_le h a.N)).trans (a.mu n h)
  N := Nat.le_trans a.N b.N
theorem Sub.rd {T T' : Tr} (e : Sub T T') {a : Addr} {u : HO} (f : T.fr a) (r : Rd T.H a u) : Rd T'.H a u := by
  rcases r with r | ⟨o, r⟩
  · rcases e.hp a u f r with z | ⟨_, o, z⟩
    · exact .inl z
    · exact .inr ⟨o, z⟩
  · rcases e.hp a _ f r with z | ⟨z, _⟩
    · exact .inr ⟨o, z⟩
    · exact z.elim
section
variable {K : Frag} {T T' : Tr}
mutual
theorem Rep.sub (e : Sub T T') : ∀ {d : D} {v : V}, Rep K T d v → Rep K T' d v
  | .non, _, h => by unfold Rep at h ⊢; exact h
  | .bl _, _, h => by unfold Rep at h ⊢; exact h
  | .int _, _, h => by unfold Rep at h ⊢; exact h
  | .str _, _, h => by unfold Rep at h ⊢; exact h
  | .lst xs, _, h => by
    unfold Rep at h ⊢
    obtain ⟨a, vs, e1, f, o, r⟩ := h
    exact ⟨a, vs, e1, e.fr a f, (e.hp a _ f o).resolve_right (fun z => z.1), RepL.sub e r⟩
  | .tup xs, _, h => by
    unfold Rep at h ⊢
    obtain ⟨a, vs, e1, f, o, r⟩ := h
    exact ⟨a, vs, e1, e.fr a f, (e.hp a _ f o).resolve_right (fun z => z.1), RepL.sub e r⟩
  | .dct t ks ds, _, h => by
    unfold Rep at h ⊢
    obtain ⟨a, u, vs, e1, f, o, k, r⟩ := h
    exact ⟨a, u, vs, e1, e.fr a f, e.rd f o, k, RepL.sub e r⟩
  | .ref n, _, h => by
    unfold Rep at h ⊢
    exact ⟨Nat.lt_of_lt_of_le h.1 e.N, by rw [e.mu n h.1]; exact h.2⟩
  | .fn _, _, h => by unfold Rep at h ⊢; exact h
  | .exc k d, _, h => by
    unfold Rep at h ⊢
    obtain ⟨a, dx, C, oe, fs, u, e1, f, o, z, v, n, f2, o2, l, r⟩ := h
    exact ⟨a, dx, C, oe, fs, u, e1, e.fr a f, (e.hp a _ f o).resolve_right (fun z => z.1), z, v, n, e.fr dx f2, (e.hp dx _ f2 o2).resolve_right (fun z => z.1), l, Rep.sub e r⟩
  | .scr ns, _, h => by
    unfold Rep at h ⊢
    obtain ⟨a, e1, o⟩ := h
    exact ⟨a, e1, o.imp (fun ⟨f, o, z⟩ => ⟨e.fr a f, o, (e.hp a _ f z).resolve_right (fun z => z.1)⟩) fun z => z⟩
theorem RepL.sub (e : Sub T T') : ∀ {ds : List D} {vs : List V}, RepL K T ds vs → RepL K T' ds vs
  | [], _, h => by unfold RepL at h ⊢; exact h
  | d :: ds, _, h => by
    unfold RepL at h ⊢
    obtain ⟨v, r, e1, h1, h2⟩ := h
    exact ⟨v, r, e1, Rep.sub e h1, RepL.sub e h2⟩
end
theorem Rep.mono (e : Ext T T') {d : D} {v : V} (h : Rep K T d v) : Rep K T' d v := h.sub e.sub
theorem RepL.mono (e : Ext T T') {ds : List D} {vs : List V} (h : RepL K T ds vs) : RepL K T' ds vs := h.sub e.sub
theorem RepL.nil : RepL K T [] [] := by unfold RepL; rfl
theorem RepL.cons {d : D} {v : V} {ds : List D} {vs : List V} (h : Rep K T d v) (t : RepL K T ds vs) : RepL K T (d :: ds) (v :: vs) := by
  unfold RepL; exact ⟨v, vs, rfl, h, t⟩
theorem RepL.nil_inv {vs : List V} (h : RepL K T [] vs) : vs = [] := by unfold RepL at h; exact h
theorem RepL.cons_inv {d : D} {ds : List D} {vs : List V} (h : RepL K T (d :: ds) vs) : ∃ v r, vs = v :: r ∧ Rep K T d v ∧ RepL K T ds r := by
  unfold RepL at h; exact h
theorem RepL.length : ∀ {ds : List D} {vs : List V}, RepL K T ds vs → ds.length = vs.length
  | [], _, h => by rw [h.nil_inv]; rfl
  | d :: ds, _, h => by
    obtain ⟨v, r, rfl, _, t⟩ := h.cons_inv
    simp [RepL.length t]
theorem RepL.get : ∀ {ds : List D} {vs : List V} {i : Nat} {d : D}, RepL K T ds vs → ds[i]? = some d → ∃ v, vs[i]? = some v ∧ Rep K T d v
  | [], _, _, _, _, e => by simp at e
  | x :: ds, _, i, d, h, e => by
    obtain ⟨v, r, rfl, h1, t⟩ := h.cons_inv
    cases i with
    | zero => simp at e; subst e; exact ⟨v, by simp, h1⟩
    | succ i =>
      obtain ⟨u, e1, h2⟩ := RepL.get (i := i) t (by simpa using e)
      exact ⟨u, by simpa using e1, h2⟩
theorem RepL.append : ∀ {ds es : List D} {vs us : List V}, RepL K T ds vs → RepL K T es us → RepL K T (ds ++ es) (vs ++ us)
  | [], _, _, _, h, t => by rw [h.nil_inv]; exact t
  | d :: ds, _, _, _, h, t => by
    obtain ⟨v, r, rfl, h1, h2⟩ := h.cons_inv
    exact .cons h1 (RepL.append h2 t)
theorem RepL.take : ∀ {ds : List D} {vs : List V} (n : Nat), RepL K T ds vs → RepL K T (ds.take n) (vs.take n)
  | _, _, 0, _ => by simp; exact .nil
  | [], _, n + 1, h => by rw [h.nil_inv]; simp; exact .nil
  | d :: ds, _, n + 1, h => by
    obtain ⟨v, r, rfl, h1, h2⟩ := h.cons_inv
    simp only [List.take_succ_cons]
    exact .cons h1 (RepL.take n h2)
theorem RepL.drop : ∀ {ds : List D} {vs : List V} (n : Nat), RepL K T ds vs → RepL K T (ds.drop n) (vs.drop n)
  | _, _, 0, h => by simpa using h
  | [], _, n + 1, h => by rw [h.nil_inv]; simp; exact .nil
  | d :: ds, _, n + 1, h => by
    obtain ⟨v, r, rfl, h1, h2⟩ := h.cons_inv
    simp only [List.drop_succ_cons]
    exact RepL.drop n h2
theorem RepL.set {d : D} {v : V} (hd : Rep K T d v) : ∀ {ds : List D} {vs : List V} (i : Nat), RepL K T ds vs → RepL K T (ds.set i d) (vs.set i v)
  | [], _, _, h => by rw [h.nil_inv]; exact .nil
  | x :: ds, _, i, h => by
    obtain ⟨u, r, rfl, h1, h2⟩ := h.cons_inv
    cases i with
    | zero => exact .cons hd h2
    | succ i => exact .cons h1 (RepL.set hd i h2)
theorem RepL.eraseIdx : ∀ {ds : List D} {vs : List V} (i : Nat), RepL K T ds vs → RepL K T (ds.eraseIdx i) (vs.eraseIdx i)
  | [], _, _, h => by rw [h.nil_inv]; exact .nil
  | x :: ds, _, i, h => by
    obtain ⟨u, r, rfl, h1, h2⟩ := h.cons_inv
    cases i with
    | zero => exact h2
    | succ i => exact .cons h1 (RepL.eraseIdx i h2)
theorem RepL.reverse : ∀ {ds : List D} {vs : List V}, RepL K T ds vs → RepL K T ds.reverse vs.reverse
  | [], _, h => by rw [h.nil_inv]; exact .nil
  | x :: ds, _, h => by
    obtain ⟨u, r, rfl, h1, h2⟩ := h.cons_inv
    rw [List.reverse_cons, List.reverse_cons]
    exact (RepL.reverse h2).append (.cons h1 .nil)
theorem RepL.dropLast {ds : List D} {vs : List V} (h : RepL K T ds vs) : RepL K T ds.dropLast vs.dropLast := by
  rw [List.dropLast_eq_take, List.dropLast_eq_take, h.length]
  exact h.take _
theorem RepL.none_of {ds : List D} {vs : List V} {i : Nat} (h : RepL K T ds vs) (e : ds[i]? = none) : vs[i]? = none := by
  rw [List.getElem?_eq_none_iff] at e ⊢
  rw [← h.length]; exact e

/-! ## live objects -/
variable (K) in
def ObR (T : Tr) (a : Addr) : Ob → Prop
  | .lst xs => ¬ T.fr a ∧ ¬ T.pr a ∧ ∃ vs, T.H a = some (.lst vs) ∧ RepL K T xs vs
  | .dct t kvs => ¬ T.fr a ∧ ¬ T.pr a ∧ ∃ u vs, T.H a = some u ∧ DK u t (kvs.map (·.1)) vs ∧ RepL K T (kvs.map (·.2)) vs
  | .lk t kvs => T.fr a ∧ ∃ od u vs, T.H a = some (.frz od u) ∧ DK u t (kvs.map (·.1)) vs ∧ RepL K T (kvs.map (·.2)) vs
  | .dead => True
def Ob.on : Ob → Prop
  | .dead => False
  | _ => True
/-- what is kept for somebody: a list being made, a locked dict -/
def PrOk (u : HO) : Prop := ∀ xs, u ≠ .tup xs
variable (K) in
structure SOk (T : Tr) (S : Store) : Prop where
  len : S.length = T.N
  ob : ∀ n o, S[n]? = some o → ObR K T (T.mu n) o
  inj : ∀ n m o q, S[n]? = some o → S[m]? = some q → o.on → q.on → T.mu n = T.mu m → n = m
  frn : ∀ a, T.fr a → T.H a ≠ none
  prn : ∀ a, T.pr a → T.H a ≠ none
  prk : ∀ a u, T.pr a → T.H a = some u → PrOk u
  dis : ∀ a, T.pr a → ¬ T.fr a
theorem ObR.some {T : Tr} {a : Addr} {o : Ob} (h : ObR K T a o) (l : o.on) : T.H a ≠ none := by
  cases o with
  | lst xs => obtain ⟨_, _, vs, e, _⟩ := h; rw [e]; simp
  | dct t kvs => obtain ⟨_, _, u, vs, e, _⟩ := h; rw [e]; simp
  | lk t kvs => obtain ⟨_, od, u, vs, e, _⟩ := h; rw [e]; simp
  | dead => exact l.elim

/-- a new place -/
def Tr.putF (T : Tr) (p : Addr) (o : HO) : Tr := { T with H := upd T.H p o, fr := fun a => T.fr a ∨ a = p }
def Tr.putM (T : Tr) (p : Addr) (o : HO) : Tr := { T with H := upd T.H p o, mu := fun n => if n = T.N then p else T.mu n, N := T.N + 1 }
def Tr.putP (T : Tr) (p : Addr) (o : HO) : Tr := { T with H := upd T.H p o, pr := fun a => T.pr a ∨ a = p }
def Tr.setH (T : Tr) (p : Addr) (o : HO) : Tr := { T with H := upd T.H p o }
theorem Rd.upd {H : Hp} {p a : Addr} {o u : HO} (h : a ≠ p) : Rd (L2.upd H p o) a u ↔ Rd H a u := by
  unfold Rd; rw [upd_ne h]
section
variable {S : Store} {p : Addr} {o : HO}
theorem SOk.fne (s : SOk K T S) (hp : T.H p = none) {a : Addr} (h : T.fr a) : a ≠ p := fun e => s.frn a h (e ▸ hp)
theorem SOk.pne (s : SOk K T S) (hp : T.H p = none) {a : Addr} (h : T.pr a) : a ≠ p := fun e => s.prn a h (e ▸ hp)
theorem SOk.mne (s : SOk K T S) (hp : T.H p = none) {n : Nat} {q : Ob} (h : S[n]? = some q) (l : q.on) : T.mu n ≠ p := fun e => (s.ob n q h).some l (e ▸ hp)
theorem ext_putF (s : SOk K T S) (hp : T.H p = none) : Ext T (T.putF p o) where
  fr := fun a h => .inl h
  hp := fun a u h r => .inl ((upd_ne (s.fne hp h)).trans r)
  pr := fun a h => ⟨h, upd_ne (s.pne hp h), fun z => z.resolve_right (s.pne hp h)⟩
  mu := fun _ _ => rfl
  N := Nat.le_refl _
theorem ext_putM (s : SOk K T S) (hp : T.H p = none) : Ext T (T.putM p o) where
  fr := fun a h => h
  hp := fun a u h r => .inl ((upd_ne (s.fne hp h)).trans r)
  pr := fun a h => ⟨h, upd_ne (s.pne hp h), fun z => z⟩
  mu := fun n h => if_neg (Nat.ne_of_lt h)
  N := Nat.le_succ _
theorem ext_putP (s : SOk K T S) (hp : T.H p = none) : Ext T (T.putP p o) where
  fr := fun a h => h
  hp := fun a u h r => .inl ((upd_ne (s.fne hp h)).trans r)
  pr := fun a h => ⟨.inl h, upd_ne (s.pne hp h), fun z => z⟩
  mu := fun _ _ => rfl
  N := Nat.le_refl _
/-- an object's description over a wider place -/
theorem ObR.mono {T T' : Tr} {a : Addr} {q : Ob} (h : ObR K T a q) (e : Ext T T') (hH : q.on → T'.H a = T.H a) (hf : q.on → T'.fr a → T.fr a) (hp : q.on → (T'.pr a ↔ T.pr a)) : ObR K T' a q := by
  cases q with
  | lst xs =>
    obtain ⟨h1, h2, vs, e1, r⟩ := h
    exact ⟨fun z => h1 (hf trivial z), fun z => h2 ((hp trivial).mp z), vs, (hH trivial).trans e1, r.mono e⟩
  | dct t kvs =>
    obtain ⟨h1, h2, u, vs, e1, k, r⟩ := h
    exact ⟨fun z => h1 (hf trivial z), fun z => h2 ((hp trivial).mp z), u, vs, (hH trivial).trans e1, k, r.mono e⟩
  | lk t kvs =>
    obtain ⟨h1, od, u, vs, e1, k, r⟩ := h
    exact ⟨e.fr _ h1, od, u, vs, (hH trivial).trans e1, k, r.mono e⟩
  | dead => trivial
theorem sok_putF (s : SOk K T S) (hp : T.H p = none) : SOk K (T.putF p o) S where
  len := s.len
  ob := fun n q h => by
    have ne : q.on → T.mu n ≠ p := s.mne hp h
    exact (s.ob n q h).mono (ext_putF s hp) (fun l => upd_ne (ne l)) (fun l z => z.resolve_right (ne l)) (fun _ => Iff.rfl)
  inj := s.inj
  frn := fun a h => by
    rcases h with h | h
    · show L2.upd T.H p o a ≠ none
      rw [upd_ne (s.fne hp h)]; exact s.frn a h
    · show L2.upd T.H p o a ≠ none
      rw [h, upd_same]; simp
  prn := fun a h => by
    show L2.upd T.H p o a ≠ none
    rw [upd_ne (s.pne hp h)]; exact s.prn a h
  prk := fun a u h e => s.prk a u h ((upd_ne (s.pne hp h)).symm.trans e)
  dis := fun a h z => z.elim (s.dis a h) (s.pne hp h)
theorem sok_putP (s : SOk K T S) (hp : T.H p = none) (ho : PrOk o) : SOk K (T.putP p o) S where
  len := s.len
  ob := fun n q h => by
    have ne : q.on → T.mu n ≠ p := s.mne hp h
    exact (s.ob n q h).mono (ext_putP s hp) (fun l => upd_ne (ne l)) (fun l z => z) (fun l => ⟨fun z => z.resolve_right (ne l), .inl⟩)
  inj := s.inj
  frn := fun a h => by
    show L2.upd T.H p o a ≠ none
    rw [upd_ne (s.fne hp h)]; exact s.frn a h
  prn := fun a h => by
    rcases h with h | h
    · show L2.upd T.H p o a ≠ none
      rw [upd_ne (s.pne hp h)]; exact s.prn a h
    · show L2.upd T.H p o a ≠ none
      rw [h, upd_same]; simp
  prk := fun a u h e => by
    rcases h with h | h
    · exact s.prk a u h ((upd_ne (s.pne hp h)).symm.trans e)
    · have e : L2.upd T.H p o a = some u := e
      rw [h, upd_same] at e
      cases e; exact ho
  dis := fun a h z => h.elim (fun h => s.dis a h z) (s.fne hp z)
theorem sok_putM (s : SOk K T S) (hp : T.H p = none) {q : Ob} (hq : ObR K (T.putM p o) p q) : SOk K (T.putM p o) (S ++ [q]) where
  len := by rw [List.length_append, s.len]; rfl
  ob := fun n z h => by
    by_cases hn : n < S.length
    · rw [List.getElem?_append_left hn] at h
      have ne : z.on → T.mu n ≠ p := s.mne hp h
      have e : (T.putM p o).mu n = T.mu n := if_neg (by rw [← s.len]; exact Nat.ne_of_lt hn)
      rw [e]
      exact (s.ob n z h).mono (ext_putM s hp) (fun l => upd_ne (ne l)) (fun l z => z) (fun _ => Iff.rfl)
    · have hlt := (List.getElem?_eq_some_iff.mp h).1
      have e : n = S.length := by simp at hlt; omega
      subst e
      rw [List.getElem?_append_right (Nat.le_refl _)] at h
      simp at h; subst h
      have e2 : (T.putM p o).mu S.length = p := if_pos s.len
      rw [e2]; exact hq
  inj := fun n m x y hx hy lx ly e => by
    have at_ : ∀ {n : Nat} {x : Ob}, (S ++ [q])[n]? = some x → (n < S.length ∧ S[n]? = some x ∧ (T.putM p o).mu n = T.mu n) ∨ (n = S.length ∧ (T.putM p o).mu n = p) := fun {n x} h => by
      by_cases hn : n < S.length
      · rw [List.getElem?_append_left hn] at h
        exact .inl ⟨hn, h, if_neg (by rw [← s.len]; exact Nat.ne_of_lt hn)⟩
      · have hlt := (List.getElem?_eq_some_iff.mp h).1
        have e : n = S.length := by simp at hlt; omega
        exact .inr ⟨e, if_pos (by rw [e, s.len])⟩
    rcases at_ hx with ⟨h1, h2, h3⟩ | ⟨h1, h3⟩ <;> rcases at_ hy with ⟨g1, g2, g3⟩ | ⟨g1, g3⟩
    · rw [h3, g3] at e; exact s.inj n m x y h2 g2 lx ly e
    · rw [h3, g3] at e; exact absurd e (s.mne hp h2 lx)
    · rw [h3, g3] at e; exact absurd e.symm (s.mne hp g2 ly)
    · omega
  frn := fun a h => by
    show L2.upd T.H p o a ≠ none
    rw [upd_ne (s.fne hp h)]; exact s.frn a h
  prn := fun a h => by
    show L2.upd T.H p o a ≠ none
    rw [upd_ne (s.pne hp h)]; exact s.prn a h
  prk := fun a u h e => s.prk a u h ((upd_ne (s.pne hp h)).symm.trans e)
  dis := s.dis
end
/-! a live object is changed -/
section
variable {S : Store} {n : Nat} {o : HO} {q q' : Ob}
theorem ext_setH (s : SOk K T S) (h : S[n]? = some q) (hq : ¬ T.fr (T.mu n) ∧ ¬ T.pr (T.mu n)) : Ext T (T.setH (T.mu n) o) where
  fr := fun a h => h
  hp := fun a u h r => .inl ((upd_ne (fun (e : a = T.mu n) => hq.1 (e ▸ h))).trans r)
  pr := fun a h => ⟨h, upd_ne (fun (e : a = T.mu n) => hq.2 (e ▸ h)), fun z => z⟩
  mu := fun _ _ => rfl
  N := Nat.le_refl _
theorem sok_setH (s : SOk K T S) (h : S[n]? = some q) (l : q.on) (hq : ¬ T.fr (T.mu n) ∧ ¬ T.pr (T.mu n)) (hn : ObR K (T.setH (T.mu n) o) (T.mu n) q') (hl : q'.on) : SOk K (T.setH (T.mu n) o) (S.set n q') where
  len := by rw [List.length_set]; exact s.len
  ob := fun m z hz => by
    by_cases e : n = m
    · subst e
      have hlt := (List.getElem?_eq_some_iff.mp h).1
      rw [List.getElem?_set_self hlt] at hz
      cases hz
      exact hn
    · rw [List.getElem?_set_ne e] at hz
      have ne : z.on → T.mu m ≠ T.mu n := fun lz e' => e (s.inj m n z q hz h lz l e').symm
      exact (s.ob m z hz).mono (ext_setH s h hq) (fun lz => upd_ne (ne lz)) (fun _ z => z) (fun _ => Iff.rfl)
  inj := fun a b x y hx hy lx ly e => by
    have at_ : ∀ {m : Nat} {x : Ob}, (S.set n q')[m]? = some x → x.on → ∃ z, S[m]? = some z ∧ z.on := fun {m x} hx lx => by
      by_cases e : n = m
      · subst e; exact ⟨q, h, l⟩
      · rw [List.getElem?_set_ne e] at hx; exact ⟨x, hx, lx⟩
    obtain ⟨z1, h1, l1⟩ := at_ hx lx
    obtain ⟨z2, h2, l2⟩ := at_ hy ly
    exact s.inj a b z1 z2 h1 h2 l1 l2 e
  frn := fun a hf => by
    show L2.upd T.H _ o a ≠ none
    have ne : a ≠ T.mu n := fun e => hq.1 (e ▸ hf)
    rw [upd_ne ne]; exact s.frn a hf
  prn := fun a hf => by
    show L2.upd T.H _ o a ≠ none
    have ne : a ≠ T.mu n := fun e => hq.2 (e ▸ hf)
    rw [upd_ne ne]; exact s.prn a hf
  prk := fun a u hf e => by
    have ne : a ≠ T.mu n := fun e => hq.2 (e ▸ hf)
    exact s.prk a u hf ((upd_ne ne).symm.trans e)
  dis := s.dis
end

/-! ## what is to follow -/
variable (K) in
def Post {α : Type} (T : Tr) (r : R α) (k : α → Store → Tr → Prop) : Prop :=
  match r with
  | .ok a S => ∀ T', Ext T T' → SOk K T' S → k a S T'
  | _ => False
theorem Post.mono {α : Type} {r : R α} {k : α → Store → Tr → Prop} (h : Post K T r k) (e : Ext T T') : Post K T' r k := by
  cases r with
  | ok a S => exact fun T2 e2 s => h T2 (e.trans e2) s
  | ex _ _ _ => exact h
  | no => exact h
theorem Post.imp {α : Type} {r : R α} {k k' : α → Store → Tr → Prop} (h : Post K T r k) (f : ∀ a S' T', Ext T T' → SOk K T' S' → k a S' T' → k' a S' T') : Post K T r k' := by
  cases r with
  | ok a S => exact fun T2 e2 s => f a S T2 e2 s (h T2 e2 s)
  | ex _ _ _ => exact h
  | no => exact h
theorem Post.bind {α β : Type} {r : R α} {m : α → Store → R β} {k : β → Store → Tr → Prop} (h : Post K T (r.bind m) k) : Post K T r fun a S' T' => Post K T' (m a S') k := by
  cases r with
  | ok a S => exact fun T2 e2 s => Post.mono (r := m a S) h e2
  | ex _ _ _ => exact h
  | no => exact h
theorem Post.noex {α : Type} {r : R α} {k : α → Store → Tr → Prop} (h : Post K T r.noex k) : Post K T r k := by
  cases r with
  | ok a S => exact h
  | ex _ _ _ => exact h.elim
  | no => exact h
theorem Post.opt {α : Type} {o : Option α} {S : Store} {k : α → Store → Tr → Prop} (h : Post K T (.opt o S) k) : ∃ a, o = some a ∧ Post K T (.ok a S) k := by
  cases o with
  | some a => exact ⟨a, rfl, h⟩
  | none => exact h.elim
theorem Post.now {α : Type} {a : α} {S : Store} {k : α → Store → Tr → Prop} (h : Post K T (.ok a S) k) (s : SOk K T S) : k a S T := h T (.refl T) s
/-- an exception of the class k, its value d -/
def XD (K : Frag) (T : Tr) (k : Nat) (d : D) (P : Value → Option Addr → Prop) : Prop := ∀ C dx fs u, XKn K k C → T.fr dx → T.H dx = some (.xd fs) → fs.lookup ("value" : Str) = some u → Rep K T d u → P (.ref C) (some dx)
variable (K) in
/-- .. where an exception may leave -/
def PostX {α : Type} (Z : XK) (T : Tr) (r : R α) (k : α → Store → Tr → Prop) : Prop :=
  match r with
  | .ok a S => ∀ T', Ext T T' → SOk K T' S → k a S T'
  | .ex q d S => ∀ T', Ext T T' → SOk K T' S → XD K T' q d fun c dx => Z c dx T'.H
  | .no => False
theorem PostX.of {α : Type} {Z : XK} {r : R α} {k : α → Store → Tr → Prop} (h : Post K T r.noex k) : PostX K Z T r k := by
  cases r with
  | ok a S => exact h
  | ex _ _ _ => exact h.elim
  | no => exact h
theorem PostX.mono {α : Type} {Z : XK} {r : R α} {k : α → Store → Tr → Prop} (h : PostX K Z T r k) (e : Ext T T') : PostX K Z T' r k := by
  cases r with
  | ok a S => exact fun T2 e2 s => h T2 (e.trans e2) s
  | ex _ _ _ => exact fun T2 e2 s => h T2 (e.trans e2) s
  | no => exact h
theorem PostX.bind {α β : Type} {Z : XK} {r : R α} {m : α → Store → R β} {k : β → Store → Tr → Prop} (h : PostX K Z T (r.noex.bind m) k) : Post K T r fun a S' T' => PostX K Z T' (m a S') k := by
  cases r with
  | ok a S => exact fun T2 e2 s => PostX.mono (r := m a S) h e2
  | ex _ _ _ => exact h
  | no => exact h
/-- the value is wanted -/
abbrev kV' (K : Frag) (Q : VK) : D → Store → Tr → Prop := fun d _ T' => ∀ v, Rep K T' d v → Q v T'.H
abbrev kL (K : Frag) (Q : List V → Hp → Prop) : List D → Store → Tr → Prop := fun d _ T' => ∀ v, RepL K T' d v → Q v T'.H
abbrev kB (Q : Bool → Hp → Prop) : Bool → Store → Tr → Prop := fun b _ T' => Q b T'.H

/-! ## new lists, tuples, dicts -/
section
variable {S : Store} {p : Addr} {Q : VK} {m : Bool} {xs : List D} {vs : List V}
theorem LMAX_le : LMAX ≤ sizeLine := by rw [sizeLine_eq]; decide
theorem LMAX_lt : LMAX < sizeLine := by rw [sizeLine_eq]; decide
theorem mkL_len (h : Post K T (mkL m xs S) (kV' K Q)) : xs.length ≤ LMAX := by
  unfold mkL at h
  split at h
  · assumption
  · exact h.elim
theorem mkL_ok (s : SOk K T S) (r : RepL K T xs vs) (h : Post K T (mkL m xs S) (kV' K Q)) (hp : T.H p = none) : Q (.ref p) (upd T.H p (.lst vs)) := by
  have hl := mkL_len h
  unfold mkL at h
  rw [if_pos hl] at h
  cases m with
  | false =>
    refine h (T.putF p (.lst vs)) (ext_putF s hp) (sok_putF s hp) _ ?_
    unfold Rep
    exact ⟨p, vs, rfl, .inr rfl, upd_same, r.mono (ext_putF s hp)⟩
  | true =>
    have r' : RepL K (T.putM p (.lst vs)) xs vs := r.mono (ext_putM s hp)
    have o : ObR K (T.putM p (.lst vs)) p (.lst xs) := ⟨fun z => s.fne hp z rfl, fun z => s.pne hp z rfl, vs, upd_same, r'⟩
    refine h (T.putM p (.lst vs)) (ext_putM s hp) (sok_putM s hp o) _ ?_
    unfold Rep
    exact ⟨by rw [s.len]; exact Nat.lt_succ_self _, by rw [s.len]; show V.ref p = V.ref (if T.N = T.N then p else _); rw [if_pos rfl]⟩
theorem mkT_ok (s : SOk K T S) (r : RepL K T xs vs) (h : Post K T (mkT xs S) (kV' K Q)) (hp : T.H p = none) : xs.length ≤ LMAX ∧ Q (.ref p) (upd T.H p (.tup vs)) := by
  unfold mkT at h
  split at h
  · refine ⟨by assumption, h (T.putF p (.tup vs)) (ext_putF s hp) (sok_putF s hp) _ ?_⟩
    unfold Rep
    exact ⟨p, vs, rfl, .inr rfl, upd_same, r.mono (ext_putF s hp)⟩
  · exact h.elim
theorem tup_ok (s : SOk K T S) (r : RepL K T xs vs) (h : Post K T (.ok (D.tup xs) S) (kV' K Q)) (hp : T.H p = none) : Q (.ref p) (upd T.H p (.tup vs)) := by
  refine h (T.putF p (.tup vs)) (ext_putF s hp) (sok_putF s hp) _ ?_
  unfold Rep
  exact ⟨p, vs, rfl, .inr rfl, upd_same, r.mono (ext_putF s hp)⟩
theorem mkD_ok (s : SOk K T S) {t : Bool} {kvs : List (KY × D)} {u : HO} (k : DK u t (kvs.map (·.1)) vs) (r : RepL K T (kvs.map (·.2)) vs) (h : Post K T (mkD m t kvs S) (kV' K Q)) (hp : T.H p = none) : Q (.ref p) (upd T.H p u) := by
  unfold mkD at h
  cases m with
  | false =>
    refine h (T.putF p u) (ext_putF s hp) (sok_putF s hp) _ ?_
    unfold Rep
    exact ⟨p, u, vs, rfl, .inr rfl, .inl upd_same, k, r.mono (ext_putF s hp)⟩
  | true =>
    have r' : RepL K (T.putM p u) (kvs.map (·.2)) vs := r.mono (ext_putM s hp)
    have o : ObR K (T.putM p u) p (.dct t kvs) := ⟨fun z => s.fne hp z rfl, fun z => s.pne hp z rfl, u, vs, upd_same, k, r'⟩
    refine h (T.putM p u) (ext_putM s hp) (sok_putM s hp o) _ ?_
    unfold Rep
    exact ⟨by rw [s.len]; exact Nat.lt_succ_self _, by rw [s.len]; show V.ref p = V.ref (if T.N = T.N then p else _); rw [if_pos rfl]⟩
end
end
end LH

namespace LH
open PySem PySem.W L2 PySem.Spec PyProof.Rows
section
variable {K : Frag} {T : Tr} {S : Store}
theorem Rep.non {v : V} (h : Rep K T .non v) : v = .non := by unfold Rep at h; exact h
theorem Rep.bl {b : Bool} {v : V} (h : Rep K T (.bl b) v) : v = .bl b := by unfold Rep at h; exact h
theorem Rep.int {i : Int} {v : V} (h : Rep K T (.int i) v) : v = .int i := by unfold Rep at h; exact h
theorem Rep.str {x : Str} {v : V} (h : Rep K T (.str x) v) : v = .str x := by unfold Rep at h; exact h
theorem Rep.mk_non : Rep K T .non .non := by unfold Rep; rfl
theorem Rep.mk_bl {b : Bool} : Rep K T (.bl b) (.bl b) := by unfold Rep; rfl
theorem Rep.mk_int {i : Int} : Rep K T (.int i) (.int i) := by unfold Rep; rfl
theorem Rep.mk_str {x : Str} : Rep K T (.str x) (.str x) := by unfold Rep; rfl
theorem Rep.lst {xs : List D} {v : V} (h : Rep K T (.lst xs) v) : ∃ a vs, v = .ref a ∧ T.fr a ∧ T.H a = some (.lst vs) ∧ RepL K T xs vs := by unfold Rep at h; exact h
theorem Rep.tup {xs : List D} {v : V} (h : Rep K T (.tup xs) v) : ∃ a vs, v = .ref a ∧ T.fr a ∧ T.H a = some (.tup vs) ∧ RepL K T xs vs := by unfold Rep at h; exact h
theorem Rep.dct {t : Bool} {ks : List KY} {ds : List D} {v : V} (h : Rep K T (.dct t ks ds) v) : ∃ a u vs, v = .ref a ∧ T.fr a ∧ Rd T.H a u ∧ DK u t ks vs ∧ RepL K T ds vs := by unfold Rep at h; exact h
theorem Rep.ref {n : Nat} {v : V} (h : Rep K T (.ref n) v) : n < T.N ∧ v = .ref (T.mu n) := by unfold Rep at h; exact h
theorem Rep.scr {ns : List Int} {v : V} (h : Rep K T (.scr ns) v) : ∃ a, v = .ref a ∧ SqL K T.H a (ns.map V.int) := by
  unfold Rep at h
  obtain ⟨a, e, ⟨f, o, z⟩ | z⟩ := h
  · exact ⟨a, e, .inl (.inr ⟨o, z⟩)⟩
  · exact ⟨a, e, z _⟩
theorem Rep.fn {x : Str} {v : V} (h : Rep K T (.fn x) v) : ∃ a, v = .ref a ∧ nsIn K mainGlobals x = some (some (.ref a)) := by unfold Rep at h; exact h
theorem Rep.exc {k : Nat} {d : D} {v : V} (h : Rep K T (.exc k d) v) : ∃ a dx C oe fs u, v = .ref a ∧ T.fr a ∧ T.H a = some (kept a oe) ∧ L2.Zc (.ref C) (some dx) oe ∧ (∃ vs, oe.data = .fields vs) ∧ XKn K k C ∧ T.fr dx ∧ T.H dx = some (.xd fs) ∧ fs.lookup ("value" : Str) = some u ∧ Rep K T d u := by unfold Rep at h; exact h
theorem RepL.ints : ∀ {is : List Int} {vs : List V}, RepL K T (is.map .int) vs → vs = is.map V.int
  | [], _, h => h.nil_inv
  | i :: is, _, h => by
    obtain ⟨v, r, rfl, h1, t⟩ := h.cons_inv
    rw [h1.int, RepL.ints t]; rfl
theorem RepL.mk_ints : ∀ (is : List Int), RepL K T (is.map .int) (is.map V.int)
  | [] => .nil
  | _ :: is => .cons Rep.mk_int (RepL.mk_ints is)
theorem RepL.bls : ∀ {is : List Bool} {vs : List V}, RepL K T (is.map .bl) vs → vs = is.map V.bl
  | [], _, h => h.nil_inv
  | i :: is, _, h => by
    obtain ⟨v, r, rfl, h1, t⟩ := h.cons_inv
    rw [h1.bl, RepL.bls t]; rfl
theorem intsD_eq : ∀ {xs : List D} {is : List Int}, intsD xs = some is → xs = is.map .int
  | [], _, h => by simp [intsD] at h; subst h; rfl
  | d :: r, is, h => by
    cases d with
    | int i =>
      simp only [intsD, Option.map_eq_some_iff] at h
      obtain ⟨js, h1, rfl⟩ := h
      rw [intsD_eq h1]; rfl
    | _ => simp [intsD] at h
theorem blsD_eq : ∀ {xs : List D} {is : List Bool}, blsD xs = some is → xs = is.map .bl
  | [], _, h => by simp [blsD] at h; subst h; rfl
  | d :: r, is, h => by
    cases d with
    | bl i =>
      simp only [blsD, Option.map_eq_some_iff] at h
      obtain ⟨js, h1, rfl⟩ := h
      rw [blsD_eq h1]; rfl
    | _ => simp [blsD] at h
theorem intsD_map (is : List Int) : intsD (is.map .int) = some is := by
  induction is with
  | nil => rfl
  | cons i r ih => simp [intsD, ih]
theorem blsD_map (is : List Bool) : blsD (is.map .bl) = some is := by
  induction is with
  | nil => rfl
  | cons i r ih => simp [blsD, ih]
/-- a list's items in the heap -/
theorem lstD_rep (s : SOk K T S) {d : D} {v : V} {xs : List D} (h : Rep K T d v) (e : lstD S d = some xs) : ∃ a vs, v = .ref a ∧ T.H a = some (.lst vs) ∧ RepL K T xs vs := by
  cases d with
  | lst ys =>
    simp only [lstD, Option.some.injEq] at e; subst e
    obtain ⟨a, vs, e1, _, e2, r⟩ := h.lst
    exact ⟨a, vs, e1, e2, r⟩
  | ref n =>
    obtain ⟨hn, e1⟩ := h.ref
    simp only [lstD] at e
    split at e
    · rename_i ys hs
      cases e
      obtain ⟨_, _, vs, e2, r⟩ := s.ob n _ hs
      exact ⟨_, vs, e1, e2, r⟩
    · cases e
  | _ => simp [lstD] at e
theorem seqD_rep (s : SOk K T S) {d : D} {v : V} {xs : List D} (h : Rep K T d v) (e : seqD S d = some xs) : ∃ a vs, v = .ref a ∧ (T.H a = some (.lst vs) ∨ (T.H a = some (.tup vs) ∧ d = .tup xs)) ∧ RepL K T xs vs := by
  cases d with
  | tup ys =>
    simp only [seqD, Option.some.injEq] at e; subst e
    obtain ⟨a, vs, e1, _, e2, r⟩ := h.tup
    exact ⟨a, vs, e1, .inr ⟨e2, rfl⟩, r⟩
  | lst ys =>
    obtain ⟨a, vs, e1, e2, r⟩ := lstD_rep s h e
    exact ⟨a, vs, e1, .inl e2, r⟩
  | ref n =>
    obtain ⟨a, vs, e1, e2, r⟩ := lstD_rep s h e
    exact ⟨a, vs, e1, .inl e2, r⟩
  | _ => simp [seqD, lstD] at e
theorem dctD_rep (s : SOk K T S) {d : D} {v : V} {t : Bool} {kvs : List (KY × D)} (h : Rep K T d v) (e : dctD S d = some (t, kvs)) : ∃ a u vs, v = .ref a ∧ Rd T.H a u ∧ DK u t (kvs.map (·.1)) vs ∧ RepL K T (kvs.map (·.2)) vs := by
  cases d with
  | dct t' ks ds =>
    simp only [dctD, Option.some.injEq, Prod.mk.injEq] at e
    obtain ⟨rfl, rfl⟩ := e
    obtain ⟨a, u, vs, e1, _, e2, k, r⟩ := h.dct
    have hl : ks.length = ds.length := by
      rw [r.length]
      rcases k with ⟨_, kv, _, rfl, rfl⟩ | ⟨_, kv, _, rfl, rfl⟩ <;> simp
    refine ⟨a, u, vs, e1, e2, ?_, ?_⟩
    · rw [show (ks.zip ds).map (·.1) = ks from List.map_fst_zip (Nat.le_of_eq hl)]; exact k
    · rw [show (ks.zip ds).map (·.2) = ds from List.map_snd_zip (Nat.le_of_eq hl.symm)]; exact r
  | ref n =>
    obtain ⟨hn, e1⟩ := h.ref
    simp only [dctD] at e
    split at e
    · rename_i hs
      cases e
      obtain ⟨_, _, u, vs, e2, k, r⟩ := s.ob n _ hs
      exact ⟨_, u, vs, e1, .inl e2, k, r⟩
    · rename_i hs
      cases e
      obtain ⟨_, od, u, vs, e2, k, r⟩ := s.ob n _ hs
      exact ⟨_, u, vs, e1, .inr ⟨od, e2⟩, k, r⟩
    · cases e
  | _ => simp [dctD] at e

theorem smallI_log {i : Int} (h : smallI i = true) : i.natAbs.log2 < 9000 := by
  unfold smallI BIG at h
  exact PySem.Flt.log2_lt_of (by decide) (of_decide_eq_true h)
end
section
variable {X : Cx}
/-- values in, a value out -/
def OpOk (X : Cx) (f : Value → Value → Sem Value) (op : D → D → Store → R D) : Prop :=
  ∃ r, OpR X f r ∧ ∀ (T : Tr) (S : Store) (x y : V) (a b : D) (Q : VK), SOk X.K T S → Rep X.K T a x → Rep X.K T b y → Post X.K T (op a b S) (kV' X.K Q) → r x y T.H Q
theorem op_mulB : OpR X (binaryOp .Mult) (rI (fun i j => i.natAbs.log2 < 9000 ∧ j.natAbs.log2 < 9000) fun i j => .int (i * j)) := opI fun i j _ _ _ _ _ hc q => mul_int q (CMulW.ok (by have h1 := hc.1; have h2 := hc.2; unfold CMulW; omega))
theorem op_fdivB : OpR X (binaryOp .FloorDiv) (rI (fun _ j => j ≠ 0 ∧ j.natAbs.log2 < 9000) fun i j => .int (i.fdiv j)) := opI fun i j _ _ _ _ _ hc q => floordiv_int hc.1 q (.inl (PyProof.noPylong_of_log2 hc.2))
theorem op_powB : OpR X (binaryOp .Pow) (rI (fun i j => 0 ≤ j ∧ j ≤ 1000 ∧ i.natAbs < 2 ^ 200) fun i j => .int (i ^ j.toNat)) := opI fun i j _ _ _ _ _ hc q => pow_int hc.1 (by
  obtain ⟨h0, h1, h2⟩ := hc
  have h3 : Builtin.Int.intBits i ≤ 201 := by
    have := PySem.Flt.log2_lt_of (k := 200) (by decide) h2
    unfold Builtin.Int.intBits
    split <;> omega
  have h4 : (Builtin.Int.intBits i : Int) * j ≤ 201 * 1000 := Int.mul_le_mul (by omega) h1 h0 (by omega)
  exact Int.le_trans h4 (by decide)) q
theorem ok_add (m : Bool) : OpOk X (binaryOp .Add) (addD m) := by
  refine ⟨_, (op_add.or op_add_str).or (op_cat.or op_catA), fun T S x y a b Q s ha hb h => ?_⟩
  unfold addD at h
  split at h
  · rw [ha.int, hb.int]
    exact .inl (.inl ⟨_, _, rfl, rfl, h.now s _ Rep.mk_int⟩)
  · split at h
    · rename_i hz
      rw [ha.str, hb.str]
      exact .inl (.inr ⟨_, _, rfl, rfl, Nat.le_trans hz LMAX_le, h.now s _ Rep.mk_str⟩)
    · exact h.elim
  · rename_i xs ys
    split at h
    · rename_i hz
      obtain ⟨p, vs, rfl, fp, ep, rp⟩ := ha.tup
      obtain ⟨q, us, rfl, fq, eq, rq⟩ := hb.tup
      refine .inr (.inr ⟨p, q, vs, us, rfl, rfl, .inl (.inl ep), .inl (.inl eq), ?_, fun e => ?_, fun e1 e2 => ?_, fun e1 e2 c hc => ?_⟩)
      · rw [← rp.length, ← rq.length]; exact Nat.le_trans hz LMAX_le
      · have : xs = [] := List.length_eq_zero_iff.mp (by rw [rp.length, e]; rfl)
        subst this
        exact h.now s _ hb
      · have : ys = [] := List.length_eq_zero_iff.mp (by rw [rq.length, e2]; rfl)
        subst this
        rw [List.append_nil] at h
        exact h.now s _ ha
      · exact tup_ok s (rp.append rq) h hc
    · exact h.elim
  · split at h
    · rename_i xs ys h1 h2
      obtain ⟨p, vs, rfl, ep, rp⟩ := lstD_rep s ha h1
      obtain ⟨q, us, rfl, eq, rq⟩ := lstD_rep s hb h2
      refine .inr (.inl ⟨p, q, vs, us, rfl, rfl, ep, eq, ?_, fun c hc => mkL_ok s (rp.append rq) h hc⟩)
      have := mkL_len h
      rw [List.length_append, rp.length, rq.length] at this
      exact Nat.le_trans this LMAX_le
    · exact h.elim
theorem ok_sub : OpOk X (binaryOp .Sub) subD := by
  refine ⟨_, op_sub, fun T S x y a b Q s ha hb h => ?_⟩
  unfold subD at h
  split at h
  · rw [ha.int, hb.int]
    exact ⟨_, _, rfl, rfl, h.now s _ Rep.mk_int⟩
  · exact h.elim
theorem RepL.repl {K : Frag} {T : Tr} {xs : List D} {vs : List V} (r : RepL K T xs vs) : ∀ n, RepL K T (List.replicate n xs).flatten (List.replicate n vs).flatten
  | 0 => .nil
  | n + 1 => by
    rw [List.replicate_succ, List.replicate_succ, List.flatten_cons, List.flatten_cons]
    exact r.append (RepL.repl r n)
theorem rep_empty {α : Type} : ∀ n : Nat, (List.replicate n (#[] : Array α)).foldl (· ++ ·) #[] = #[]
  | 0 => rfl
  | n + 1 => by rw [List.replicate_succ, List.foldl_cons]; simpa using rep_empty n
theorem rep_size {α : Type} (c : Array α) : ∀ (n : Nat) (acc : Array α), ((List.replicate n c).foldl (· ++ ·) acc).size = acc.size + c.size * n
  | 0, acc => by simp
  | n + 1, acc => by
    rw [List.replicate_succ, List.foldl_cons, rep_size c n, Array.size_append, Nat.mul_succ]
    omega
theorem op_mulStr : OpR X (binaryOp .Mult) (fun x y H Q => ∃ (i : Str) (j : Int), x = .str i ∧ y = .int j ∧ 0 ≤ j ∧ j ≤ LMAX ∧ i.length * j.toNat ≤ LMAX ∧ Q (.str (strRep i j.toNat)) H) := by
  intro pins s σ H x y v u Q I rx ry h
  obtain ⟨i, j, rfl, rfl, h0, h1, h2, q⟩ := h
  obtain ⟨t, rfl⟩ := rx
  obtain ⟨t', rfl⟩ := ry
  have hL : LMAX = 16000000 := by decide
  refine PySem.P.mul_str ?_ (fun hn hz => ?_) (fun hn hz => ?_) ?_
  · rw [decide_eq_false (by omega), decide_eq_false (by omega)]; rfl
  · have h3 : (i.length : Int) * j ≤ LMAX := by
      have : ((i.length * j.toNat : Nat) : Int) ≤ LMAX := by exact_mod_cast h2
      rw [Int.natCast_mul, Int.toNat_of_nonneg h0] at this
      exact this
    have h4 : (i.length : Int) ≤ (2 ^ 63 - 1) / j := by
      refine (Int.le_ediv_iff_mul_le (by omega)).mpr ?_
      have : (LMAX : Int) ≤ 2 ^ 63 - 1 := by decide
      omega
    omega
  · unfold Builtin.Str.tooLong
    have : i.length * j.toNat ≤ sizeLine := Nat.le_trans h2 LMAX_le
    simp [this]
  · by_cases hn : j < 1
    · rw [if_pos hn]
      have : j = 0 := by omega
      subst this
      exact ⟨by decide, .str Str.empty, H, I.tok _, ⟨_, rfl⟩, q⟩
    · rw [if_neg hn]
      by_cases hz : (j == 1 || i.length == 0) = true
      · rw [if_pos hz]
        have e : strRep i j.toNat = i := by
          rw [Bool.or_eq_true, beq_iff_eq, beq_iff_eq] at hz
          unfold strRep
          rcases hz with rfl | hz
          · simp
          · have : i.cps = #[] := Array.eq_empty_of_size_eq_zero hz
            obtain ⟨c⟩ := i
            simp only at this
            subst this
            rw [rep_empty]
        rw [e] at q
        exact ⟨.str i, H, I, ⟨_, rfl⟩, q⟩
      · rw [if_neg hz]
        refine ⟨?_, .str _, H, I.tok _, ⟨_, rfl⟩, q⟩
        show ((List.replicate j.toNat i.cps).foldl (· ++ ·) #[]).size ≤ sizeLine
        rw [rep_size]
        have : i.cps.size * j.toNat ≤ LMAX := h2
        have h5 := LMAX_le
        simp
        omega
theorem ok_mul (m : Bool) : OpOk X (binaryOp .Mult) (mulD m) := by
  refine ⟨_, (op_mulB.or op_rep).or op_mulStr, fun T S x y a b Q s ha hb h => ?_⟩
  unfold mulD at h
  split at h
  · split at h
    · rename_i hz
      rw [Bool.and_eq_true] at hz
      rw [ha.int, hb.int]
      exact .inl (.inl ⟨_, _, rfl, rfl, ⟨smallI_log hz.1, smallI_log hz.2⟩, h.now s _ Rep.mk_int⟩)
    · exact h.elim
  · split at h
    · rename_i hz
      rw [ha.str, hb.int]
      exact .inr ⟨_, _, rfl, rfl, hz.1, hz.2.1, hz.2.2, h.now s _ Rep.mk_str⟩
    · exact h.elim
  · rename_i j _ _
    split at h
    · rename_i xs h1
      split at h
      · rename_i hz
        obtain ⟨p, vs, rfl, ep, rp⟩ := lstD_rep s ha h1
        rw [hb.int]
        refine .inl (.inr ⟨p, j, vs, rfl, rfl, ep, by omega, ?_, ?_, fun c hc => mkL_ok s (rp.repl _) h hc⟩)
        · have h3 : (LMAX : Int) < 2 ^ 63 := by decide
          omega
        · rw [← rp.length]; exact Nat.le_trans hz.2.2 LMAX_le
      · exact h.elim
    · exact h.elim
  · exact h.elim
theorem ok_fdiv : OpOk X (binaryOp .FloorDiv) fdivD := by
  refine ⟨_, op_fdivB, fun T S x y a b Q s ha hb h => ?_⟩
  unfold fdivD at h
  split at h
  · split at h
    · rename_i hz
      rw [Bool.and_eq_true, decide_eq_true_eq] at hz
      rw [ha.int, hb.int]
      exact ⟨_, _, rfl, rfl, ⟨hz.2, smallI_log hz.1⟩, h.now s _ Rep.mk_int⟩
    · exact h.elim
  · exact h.elim
theorem ok_mod : OpOk X (binaryOp .Mod) modD := by
  refine ⟨_, op_modN, fun T S x y a b Q s ha hb h => ?_⟩
  unfold modD at h
  split at h
  · split at h
    · rename_i hz
      rw [ha.int, hb.int]
      exact ⟨_, _, rfl, rfl, hz, h.now s _ Rep.mk_int⟩
    · exact h.elim
  · exact h.elim
theorem ok_pow : OpOk X (binaryOp .Pow) powD := by
  refine ⟨_, op_powB, fun T S x y a b Q s ha hb h => ?_⟩
  unfold powD at h
  split at h
  · split at h
    · rename_i hz
      rw [ha.int, hb.int]
      exact ⟨_, _, rfl, rfl, hz, h.now s _ Rep.mk_int⟩
    · exact h.elim
  · exact h.elim
def bop : BOp → Operator
  | .add => .Add
  | .sub => .Sub
  | .mul => .Mult
  | .fdiv => .FloorDiv
  | .mod => .Mod
  | .pow => .Pow
theorem ok_bin (m : Bool) (op : BOp) : OpOk X (binaryOp (bop op)) (binD m op) := by
  cases op with
  | add => exact ok_add m
  | sub => exact ok_sub
  | mul => exact ok_mul m
  | fdiv => exact ok_fdiv
  | mod => exact ok_mod
  | pow => exact ok_pow
end
end LH

namespace LH
open PySem PySem.W L2 PySem.Spec PyProof.Rows
/-! ## data in the heap -/
mutual
inductive DpR (H : Hp) : V → PyData → Prop
  | non : DpR H .non .none
  | bl (b : Bool) : DpR H (.bl b) (.bool b)
  | int (i : Int) : DpR H (.int i) (.int i)
  | str (x : Str) : DpR H (.str x) (.str x)
  | lst {a : Addr} {xs : List V} {ds : List PyData} : H a = some (.lst xs) → DpRL H xs ds → DpR H (.ref a) (.list ds)
  | tup {a : Addr} {xs : List V} {ds : List PyData} : H a = some (.tup xs) → DpRL H xs ds → DpR H (.ref a) (.tuple ds)
  | dK {a : Addr} {u : HO} {ks : List KY} {t : Bool} {xs : List V} {ds : List PyData} : Rd H a u → DK u t ks xs → DpRL H xs ds → DpR H (.ref a) (.dict ((ks.map KY.py).zip ds))
inductive DpRL (H : Hp) : List V → List PyData → Prop
  | nil : DpRL H [] []
  | cons {v : V} {vs : List V} {d : PyData} {ds : List PyData} : DpR H v d → DpRL H vs ds → DpRL H (v :: vs) (d :: ds)
end
theorem DpRL.length {H : Hp} : ∀ {vs : List V} {ds : List PyData}, DpRL H vs ds → vs.length = ds.length
  | _, _, .nil => rfl
  | _, _, .cons _ t => by simp [DpRL.length t]
section
variable {X : Cx} {pins : List (Addr × Obj)} {σ : L2.St} {H : Hp} {s : Shared}
theorem readsKeys {h : Heap} : ∀ {ks : List Key} {es : List Value}, Paired (fun k e => keyIs k e = true) ks es → ReadsAll h es (ks.map keyP) []
  | _, _, .nil => .nil
  | k :: _, e :: _, .cons h1 t => by
    have r : Reads h e (keyP k) [] := by
      rcases keyIs_shape h1 with ⟨i, u, rfl, rfl⟩ | ⟨x, u, rfl, rfl⟩
      · exact .int i u
      · exact .str x u
    exact ReadsAll.cons (as := []) (bs := []) r (readsKeys t)
theorem DpRL.keys {ks : List Key} {us : List Value} (r : Vals (ks.map kV) us) : ∀ {h : Heap}, ReadsAll h us (ks.map keyP) [] := by
  intro h
  induction ks generalizing us with
  | nil => cases r; exact .nil
  | cons k ks ih =>
    cases r with
    | cons r1 r2 =>
      have q : ∀ v, L2.RelV (kV k) v → Reads h v (keyP k) [] := fun v r1 => by
        cases k with
        | inl i => obtain ⟨t, rfl⟩ := r1; exact .int i t
        | inr x => obtain ⟨t, rfl⟩ := r1; exact .str x t
      exact ReadsAll.cons (as := []) (bs := []) (q _ r1) (ih r2)
mutual
theorem DpR.reads (I : L2.Inv X pins σ H s) : ∀ {v : V} {d : PyData} {u : Value}, DpR H v d → L2.RelV v u → ∃ as, Reads s.heap u d as ∧ ∀ a ∈ as, H a ≠ none
  | _, _, _, .non, r => by cases r; exact ⟨_, .none, by simp⟩
  | _, _, _, .bl b, r => by cases r; exact ⟨_, .bool b, by simp⟩
  | _, _, _, .int i, r => by obtain ⟨t, rfl⟩ := r; exact ⟨_, .int i t, by simp⟩
  | _, _, _, .str x, r => by obtain ⟨t, rfl⟩ := r; exact ⟨_, .str x t, by simp⟩
  | _, _, _, .lst h hs, r => by
    cases r
    obtain ⟨its, rv, ⟨o, n, ho, hc, _, hd⟩, _⟩ := I.list (SqL.of h)
    obtain ⟨as, hr, hn⟩ := DpRL.reads I hs rv
    exact ⟨_, .list ho hc hd hr, fun a ha => by
      rcases List.mem_cons.mp ha with rfl | ha
      · rw [h]; simp
      · exact hn a ha⟩
  | _, _, _, .tup h hs, r => by
    cases r
    obtain ⟨its, rv, ⟨o, ho, hc, n, hd⟩, _⟩ := I.tuple (SqT.of h)
    obtain ⟨as, hr, hn⟩ := DpRL.reads I hs rv
    exact ⟨_, .tuple ho hc hd hr, hn⟩
  | _, _, _, .dK (a := a) (u := u) (ks := ks) (t := t) (xs := xs) (ds := ds) h hk hs, r => by
    cases r
    have hn0 : H a ≠ none := by rcases h with h | ⟨o, h⟩ <;> (rw [h]; simp)
    have ok : L2.ObjOk X.prog X.w H s.heap a u := h.ok I.hok
    have hl := hs.length
    have hrec := fun (us : List Value) (r : Vals xs us) => DpRL.reads I hs r
    clear hs
    rcases hk with ⟨_, kvs, rfl, rfl, rfl⟩ | ⟨_, kvs, rfl, rfl, rfl⟩
    · obtain ⟨_, _, vs, rk, o, es, ep, ho, hx, hd, _, hp, _⟩ := ok
      have split : ∀ {kvs : List (Key × V)} {vs : List (Key × Value)} {es : List DictEntry}, KV kvs vs → Pairs (mixKind X.prog X.w) es vs →
          ReadsAll s.heap (es.map (·.key)) (kvs.map fun p => keyP p.1) [] ∧ Vals (kvs.map (·.2)) (es.map (·.val)) := by
        intro kvs vs es rk
        induction rk generalizing es with
        | nil => intro hp; cases hp; exact ⟨.nil, .nil⟩
        | @cons p q ps qs h1 h2 ih =>
          intro hp
          cases hp with
          | @cons e _ es' _ i1 i2 i3 =>
            obtain ⟨j1, j2⟩ := ih i3
            refine ⟨?_, .cons (by show L2.RelV p.2 e.val; rw [i2]; exact h1.2) j2⟩
            have k1 : Reads s.heap e.key (keyP p.1) [] := by
              have i1' : keyIs p.1 e.key = true := by rw [h1.1]; exact i1
              rcases keyIs_shape i1' with ⟨i, u, e1, e2⟩ | ⟨x, u, e1, e2⟩
              · rw [e1, e2]; exact .int i u
              · rw [e1, e2]; exact .str x u
            exact ReadsAll.cons (as := []) (bs := []) k1 j1
      obtain ⟨j1, j2⟩ := split rk hp
      obtain ⟨as, hr, hn⟩ := hrec _ j2
      refine ⟨a :: [] ++ as, .dict ho hx.1 hd ?_ ?_, fun b hb => ?_⟩
      · rw [List.map_fst_zip (by simp at hl ⊢; omega), List.map_map]; exact j1
      · rw [List.map_snd_zip (by simp at hl ⊢; omega)]; exact hr
      · rcases List.mem_cons.mp hb with rfl | hb
        · exact hn0
        · exact hn b hb
    · obtain ⟨_, _, xs, rk, o, es, ep, ho, hx, hd, he, _⟩ := ok
      have split : ∀ {kvs : List (List Key × V)} {xs : List (List Key × Addr × Value)}, Paired (fun (p : List Key × V) (q : List Key × Addr × Value) => p.1 = q.1 ∧ H q.2.1 = some (.tup (p.1.map kV)) ∧ L2.RelV p.2 q.2.2) kvs xs →
          ReadsAll s.heap ((xs.map (entryOfKey (tupleKind (mixKind X.prog X.w)))).map (·.key)) (kvs.map fun p => (KY.t p.1).py) [] ∧ Vals (kvs.map (·.2)) ((xs.map (entryOfKey (tupleKind (mixKind X.prog X.w)))).map (·.val)) := by
        intro kvs xs rk
        induction rk with
        | nil => exact ⟨.nil, .nil⟩
        | @cons p q ps qs h1 h2 ih =>
          obtain ⟨j1, j2⟩ := ih
          obtain ⟨g1, g2, g3⟩ := h1
          refine ⟨?_, .cons g3 j2⟩
          obtain ⟨its, rv, ⟨o, ho, hc, n, hd⟩, _⟩ := I.tuple (SqT.of g2)
          have k1 : Reads s.heap (.ref q.2.1) (KY.t p.1).py [] := .tuple ho hc hd (DpRL.keys rv)
          exact ReadsAll.cons (as := []) (bs := []) k1 j1
      obtain ⟨j1, j2⟩ := split rk
      rw [← he] at j1 j2
      obtain ⟨as, hr, hn⟩ := hrec _ j2
      refine ⟨a :: [] ++ as, .dict ho hx.1 hd ?_ ?_, fun b hb => ?_⟩
      · rw [List.map_fst_zip (by simp at hl ⊢; omega), List.map_map]; exact j1
      · rw [List.map_snd_zip (by simp at hl ⊢; omega)]; exact hr
      · rcases List.mem_cons.mp hb with rfl | hb
        · exact hn0
        · exact hn b hb
theorem DpRL.reads (I : L2.Inv X pins σ H s) : ∀ {vs : List V} {ds : List PyData} {us : List Value}, DpRL H vs ds → Vals vs us → ∃ as, ReadsAll s.heap us ds as ∧ ∀ a ∈ as, H a ≠ none
  | _, _, _, .nil, r => by cases r; exact ⟨_, .nil, by simp⟩
  | _, _, _, .cons h1 h2, r => by
    cases r with
    | cons r1 r2 =>
      obtain ⟨as, q1, n1⟩ := DpR.reads I h1 r1
      obtain ⟨bs, q2, n2⟩ := DpRL.reads I h2 r2
      exact ⟨_, .cons q1 q2, fun a ha => (List.mem_append.mp ha).elim (n1 a) (n2 a)⟩
end
end
/-! ## what is read -/
section
variable {K : Frag} {T : Tr} {S : Store}
mutual
theorem trav_dp {g : Nat → Option D} (hg : ∀ n v y, Rep K T (.ref n) v → g n = some y → ∀ k, y.plainR k = true → DpR T.H v y.py) : ∀ {d : D} {v : V} {x : D}, Rep K T d v → D.trav g d = some x → ∀ k, x.plainR k = true → DpR T.H v x.py
  | .non, v, x, h, e, k, hk => by simp only [D.trav, Option.some.injEq] at e; subst e; rw [h.non]; simp only [D.py]; exact .non
  | .bl b, v, x, h, e, k, hk => by simp only [D.trav, Option.some.injEq] at e; subst e; rw [h.bl]; simp only [D.py]; exact .bl b
  | .int b, v, x, h, e, k, hk => by simp only [D.trav, Option.some.injEq] at e; subst e; rw [h.int]; simp only [D.py]; exact .int b
  | .str b, v, x, h, e, k, hk => by simp only [D.trav, Option.some.injEq] at e; subst e; rw [h.str]; simp only [D.py]; exact .str b
  | .lst xs, v, x, h, e, k, hk => by
    simp only [D.trav, Option.map_eq_some_iff] at e
    obtain ⟨ys, e1, rfl⟩ := e
    obtain ⟨a, vs, rfl, _, e2, r⟩ := h.lst
    cases k with
    | zero => simp [D.plainR] at hk
    | succ k =>
      simp only [D.plainR] at hk
      simp only [D.py]
      exact .lst e2 (travL_dp hg r e1 k hk)
  | .tup xs, v, x, h, e, k, hk => by
    simp only [D.trav, Option.map_eq_some_iff] at e
    obtain ⟨ys, e1, rfl⟩ := e
    obtain ⟨a, vs, rfl, _, e2, r⟩ := h.tup
    cases k with
    | zero => simp [D.plainR] at hk
    | succ k =>
      simp only [D.plainR] at hk
      simp only [D.py]
      exact .tup e2 (travL_dp hg r e1 k hk)
  | .dct t ks xs, v, x, h, e, k, hk => by
    simp only [D.trav, Option.map_eq_some_iff] at e
    obtain ⟨ys, e1, rfl⟩ := e
    obtain ⟨a, u, vs, rfl, _, e2, k2, r⟩ := h.dct
    cases k with
    | zero => simp [D.plainR] at hk
    | succ k =>
      simp only [D.plainR] at hk
      simp only [D.py]
      exact .dK e2 k2 (travL_dp hg r e1 k hk)
  | .ref n, v, x, h, e, k, hk => hg n v x h (by simpa only [D.trav] using e) k hk
  | .fn n, v, x, h, e, k, hk => by simp only [D.trav, Option.some.injEq] at e; subst e; cases k <;> simp [D.plainR] at hk
  | .exc n d, v, x, h, e, k, hk => by
    simp only [D.trav, Option.map_eq_some_iff] at e
    obtain ⟨y, _, rfl⟩ := e
    cases k <;> simp [D.plainR] at hk
  | .scr n, v, x, h, e, k, hk => by simp only [D.trav, Option.some.injEq] at e; subst e; cases k <;> simp [D.plainR] at hk
theorem travL_dp {g : Nat → Option D} (hg : ∀ n v y, Rep K T (.ref n) v → g n = some y → ∀ k, y.plainR k = true → DpR T.H v y.py) : ∀ {ds : List D} {vs : List V} {xs : List D}, RepL K T ds vs → D.travL g ds = some xs → ∀ k, D.plainRL k xs = true → DpRL T.H vs (D.pyL xs)
  | [], _, xs, h, e, k, hk => by
    simp only [D.travL, Option.some.injEq] at e; subst e
    rw [h.nil_inv]; simp only [D.pyL]; exact .nil
  | d :: ds, _, xs, h, e, k, hk => by
    simp only [D.travL, Option.bind_eq_some_iff, Option.map_eq_some_iff] at e
    obtain ⟨y, e1, ys, e2, rfl⟩ := e
    obtain ⟨v, r, rfl, h1, h2⟩ := h.cons_inv
    simp only [D.plainRL, Bool.and_eq_true] at hk
    simp only [D.pyL]
    exact .cons (trav_dp hg h1 e1 k hk.1) (travL_dp hg h2 e2 k hk.2)
end
theorem flat_dp (s : SOk K T S) (b : Nat) (hb : ∀ n v y, n < b → Rep K T (.ref n) v → ∀ k, (D.ref n).plainR k = true → y = D.ref n → DpR T.H v y.py) : ∀ (j n : Nat) (v : V) (y : D), Rep K T (.ref n) v → flat S b j (.ref n) = some y → ∀ k, y.plainR k = true → DpR T.H v y.py
  | 0, n, v, y, h, e, k, hk => by
    simp only [flat, D.trav] at e
    split at e
    · rename_i hn; simp only [Option.some.injEq] at e; exact hb n v y hn h k (e ▸ hk) e.symm
    · cases e
  | j + 1, n, v, y, h, e, k, hk => by
    simp only [flat, D.trav] at e
    split at e
    · rename_i hn; simp only [Option.some.injEq] at e; exact hb n v y hn h k (e ▸ hk) e.symm
    · obtain ⟨hn, rfl⟩ := h.ref
      split at e
      · rename_i xs hs
        simp only [Option.map_eq_some_iff] at e
        obtain ⟨ys, e1, rfl⟩ := e
        obtain ⟨_, _, vs, e2, r⟩ := s.ob n _ hs
        cases k with
        | zero => simp [D.plainR] at hk
        | succ k =>
          simp only [D.plainR] at hk
          simp only [D.py]
          exact .lst e2 (travL_dp (fun m v y h e k hk => flat_dp s b hb j m v y h e k hk) r e1 k hk)
      · rename_i t kvs hs
        simp only [Option.map_eq_some_iff] at e
        obtain ⟨ys, e1, rfl⟩ := e
        obtain ⟨_, _, u, vs, e2, k2, r⟩ := s.ob n _ hs
        cases k with
        | zero => simp [D.plainR] at hk
        | succ k =>
          simp only [D.plainR] at hk
          simp only [D.py]
          exact .dK (.inl e2) k2 (travL_dp (fun m v y h e k hk => flat_dp s b hb j m v y h e k hk) r e1 k hk)
      · rename_i t kvs hs
        simp only [Option.map_eq_some_iff] at e
        obtain ⟨ys, e1, rfl⟩ := e
        obtain ⟨_, od, u, vs, e2, k2, r⟩ := s.ob n _ hs
        cases k with
        | zero => simp [D.plainR] at hk
        | succ k =>
          simp only [D.plainR] at hk
          simp only [D.py]
          exact .dK (.inr ⟨od, e2⟩) k2 (travL_dp (fun m v y h e k hk => flat_dp s b hb j m v y h e k hk) r e1 k hk)
      · cases e
theorem flat_unf (S : Store) (b j : Nat) (d : D) : flat S b j d = D.trav (fun n => flat S b j (.ref n)) d := by
  cases j with
  | zero =>
    simp only [flat]
    refine congrArg (fun g => D.trav g d) (funext fun n => ?_)
    simp only [D.trav]
  | succ k =>
    simp only [flat]
    refine congrArg (fun g => D.trav g d) (funext fun n => ?_)
    simp only [D.trav]
theorem rd_dp (s : SOk K T S) {d : D} {v : V} {x : D} (h : Rep K T d v) (e : rd S d = some x) {k : Nat} (hk : x.plainR k = true) : DpR T.H v x.py := by
  unfold rd at e
  rw [flat_unf] at e
  exact trav_dp (fun n v y h e k hk => flat_dp s 0 (fun n v y hn => absurd hn (Nat.not_lt_zero n)) 4 n v y h e k hk) h e k hk
mutual
theorem plainR_of : ∀ (k : Nat) (d : D), d.plain k = true → d.plainR k = true
  | k, .non, _ => by cases k <;> simp [D.plainR]
  | k, .bl _, _ => by cases k <;> simp [D.plainR]
  | k, .int _, _ => by cases k <;> simp [D.plainR]
  | k, .str _, _ => by cases k <;> simp [D.plainR]
  | 0, .lst _, h => by simp [D.plain] at h
  | 0, .tup _, h => by simp [D.plain] at h
  | k + 1, .lst xs, h => by simp only [D.plain] at h; simp only [D.plainR]; exact plainRL_of k xs h
  | k + 1, .tup xs, h => by simp only [D.plain] at h; simp only [D.plainR]; exact plainRL_of k xs h
  | k, .dct _ _ _, h => by cases k <;> simp [D.plain] at h
  | k, .ref _, h => by cases k <;> simp [D.plain] at h
  | k, .fn _, h => by cases k <;> simp [D.plain] at h
  | k, .exc _ _, h => by cases k <;> simp [D.plain] at h
  | k, .scr _, h => by cases k <;> simp [D.plain] at h
theorem plainRL_of : ∀ (k : Nat) (ds : List D), D.plainL k ds = true → D.plainRL k ds = true
  | _, [], _ => by simp [D.plainRL]
  | k, d :: ds, h => by
    simp only [D.plainL, Bool.and_eq_true] at h
    simp only [D.plainRL, Bool.and_eq_true]
    exact ⟨plainR_of k d h.1, plainRL_of k ds h.2⟩
end
mutual
theorem canLay_plain : ∀ (k : Nat) (d : D), d.plain k = true → d.py.canLay0 = true
  | k, .non, _ => by simp [D.py, PyData.canLay0]
  | k, .bl _, _ => by simp [D.py, PyData.canLay0]
  | k, .int _, _ => by simp [D.py, PyData.canLay0]
  | k, .str x, h => by cases k <;> (simp only [D.plain] at h; simp only [D.py, PyData.canLay0]; exact h)
  | 0, .lst _, h => by simp [D.plain] at h
  | 0, .tup _, h => by simp [D.plain] at h
  | k + 1, .lst xs, h => by simp only [D.plain] at h; simp only [D.py, PyData.canLay0]; exact canLayL_plain k xs h
  | k + 1, .tup xs, h => by simp only [D.plain] at h; simp only [D.py, PyData.canLay0]; exact canLayL_plain k xs h
  | k, .dct _ _ _, h => by cases k <;> simp [D.plain] at h
  | k, .ref _, h => by cases k <;> simp [D.plain] at h
  | k, .fn _, h => by cases k <;> simp [D.plain] at h
  | k, .exc _ _, h => by cases k <;> simp [D.plain] at h
  | k, .scr _, h => by cases k <;> simp [D.plain] at h
theorem canLayL_plain : ∀ (k : Nat) (ds : List D), D.plainL k ds = true → PyData.canLayAll0 (D.pyL ds) = true
  | _, [], _ => by simp [D.pyL, PyData.canLayAll0]
  | k, d :: ds, h => by
    simp only [D.plainL, Bool.and_eq_true] at h
    simp only [D.pyL, PyData.canLayAll0, Bool.and_eq_true]
    exact ⟨canLay_plain k d h.1, canLayL_plain k ds h.2⟩
end
theorem keyP_depth (k : Key) : (keyP k).depth = 0 := by cases k <;> simp [keyP, PyData.depth]
theorem depthKeys (xs : List Key) : PyData.depthAll (xs.map keyP) = 0 := by
  induction xs with
  | nil => simp [PyData.depthAll]
  | cons x xs ih => simp [PyData.depthAll, keyP_depth, ih]
theorem KY_depth (k : KY) : k.py.depth ≤ 1 := by
  cases k with
  | k x => simp [KY.py, keyP_depth]
  | t xs => simp [KY.py, PyData.depth, depthKeys]
theorem depthKv_le : ∀ (ks : List KY) (ds : List PyData) (m : Nat), PyData.depthAll ds ≤ m → PyData.depthKv ((ks.map KY.py).zip ds) ≤ max 1 m
  | [], _, _, _ => by simp [PyData.depthKv]
  | _ :: _, [], _, _ => by simp [PyData.depthKv]
  | k :: ks, d :: ds, m, h => by
    simp only [PyData.depthAll] at h
    simp only [List.map_cons, List.zip_cons_cons, PyData.depthKv]
    have h1 := KY_depth k
    have h2 := depthKv_le ks ds m (by omega)
    omega
mutual
theorem depth_plain : ∀ (k : Nat) (d : D), d.plainR k = true → d.py.depth ≤ k + 1
  | k, .non, _ => by simp [D.py, PyData.depth]
  | k, .bl _, _ => by simp [D.py, PyData.depth]
  | k, .int _, _ => by simp [D.py, PyData.depth]
  | k, .str x, h => by simp [D.py, PyData.depth]
  | 0, .lst _, h => by simp [D.plainR] at h
  | 0, .tup _, h => by simp [D.plainR] at h
  | 0, .dct _ _ _, h => by simp [D.plainR] at h
  | k + 1, .lst xs, h => by
    simp only [D.plainR] at h
    have := depthL_plain k xs h
    simp only [D.py, PyData.depth]; omega
  | k + 1, .tup xs, h => by
    simp only [D.plainR] at h
    have := depthL_plain k xs h
    simp only [D.py, PyData.depth]; omega
  | k + 1, .dct _ ks xs, h => by
    simp only [D.plainR] at h
    have := depthL_plain k xs h
    have := depthKv_le ks (D.pyL xs) _ this
    simp only [D.py, PyData.depth]; omega
  | k, .ref _, h => by cases k <;> simp [D.plainR] at h
  | k, .fn _, h => by cases k <;> simp [D.plainR] at h
  | k, .exc _ _, h => by cases k <;> simp [D.plainR] at h
  | k, .scr _, h => by cases k <;> simp [D.plainR] at h
theorem depthL_plain : ∀ (k : Nat) (ds : List D), D.plainRL k ds = true → PyData.depthAll (D.pyL ds) ≤ k + 1
  | _, [], _ => by simp [D.pyL, PyData.depthAll]
  | k, d :: ds, h => by
    simp only [D.plainRL, Bool.and_eq_true] at h
    have h1 := depth_plain k d h.1
    have h2 := depthL_plain k ds h.2
    simp only [D.pyL, PyData.depthAll]; omega
end
theorem shaped_plain {d : D} (h : d.plain DEEP = true) : SeqAt.shaped d.py = true := by
  have h1 := canLay_plain _ _ h
  have h2 := depth_plain _ _ (plainR_of _ _ h)
  unfold SeqAt.shaped
  rw [h1, Bool.true_and, decide_eq_true_eq]
  have : DEEP = 20 := rfl
  omega
mutual
theorem eqD_py : ∀ (k : Nat) (a b : D), a.plain k = true → b.plain k = true → PyData.eqv a.py b.py = eqD a b
  | k, a, b, ha, hb => by
    cases a with
    | lst xs => cases k with
      | zero => simp [D.plain] at ha
      | succ k => cases b with
        | lst ys => simp only [D.plain] at ha hb; simp only [D.py, PyData.eqv, eqD]; exact eqDL_py k xs ys ha hb
        | dct _ _ _ => simp [D.plain] at hb
        | ref _ => simp [D.plain] at hb
        | fn _ => simp [D.plain] at hb
        | exc _ _ => simp [D.plain] at hb
        | scr _ => simp [D.plain] at hb
        | _ => simp [D.py, PyData.eqv, eqD]
    | tup xs => cases k with
      | zero => simp [D.plain] at ha
      | succ k => cases b with
        | tup ys => simp only [D.plain] at ha hb; simp only [D.py, PyData.eqv, eqD]; exact eqDL_py k xs ys ha hb
        | dct _ _ _ => simp [D.plain] at hb
        | ref _ => simp [D.plain] at hb
        | fn _ => simp [D.plain] at hb
        | exc _ _ => simp [D.plain] at hb
        | scr _ => simp [D.plain] at hb
        | _ => simp [D.py, PyData.eqv, eqD]
    | dct _ _ _ => cases k <;> simp [D.plain] at ha
    | ref _ => cases k <;> simp [D.plain] at ha
    | fn _ => cases k <;> simp [D.plain] at ha
    | exc _ _ => cases k <;> simp [D.plain] at ha
    | scr _ => cases k <;> simp [D.plain] at ha
    | _ =>
      cases b with
      | dct _ _ _ => cases k <;> simp [D.plain] at hb
      | ref _ => cases k <;> simp [D.plain] at hb
      | fn _ => cases k <;> simp [D.plain] at hb
      | exc _ _ => cases k <;> simp [D.plain] at hb
      | scr _ => cases k <;> simp [D.plain] at hb
      | _ => simp [D.py, PyData.eqv, eqD, b2i] <;> rfl
theorem eqDL_py : ∀ (k : Nat) (xs ys : List D), D.plainL k xs = true → D.plainL k ys = true → PyData.eqvAll (D.pyL xs) (D.pyL ys) = eqDL xs ys
  | _, [], [], _, _ => by simp [D.pyL, PyData.eqvAll, eqDL]
  | _, [], _ :: _, _, _ => by simp [D.pyL, PyData.eqvAll, eqDL]
  | _, _ :: _, [], _, _ => by simp [D.pyL, PyData.eqvAll, eqDL]
  | k, x :: xs, y :: ys, hx, hy => by
    simp only [D.plainL, Bool.and_eq_true] at hx hy
    simp only [D.pyL, PyData.eqvAll, eqDL, eqD_py k x y hx.1 hy.1, eqDL_py k xs ys hx.2 hy.2]
end
end
end LH

namespace LH
open PySem PySem.W L2 PySem.Spec PyProof.Rows
mutual
theorem DpR.dp {K : Frag} {H : Hp} : ∀ {v : V} {d : PyData}, DpR H v d → d.canLay0 = true → Dp K H v d
  | _, _, .non, _ => .non
  | _, _, .bl b, _ => .bl b
  | _, _, .int i, _ => .int i
  | _, _, .str x, _ => .str x
  | _, _, .lst h hs, c => .lst (SqL.of h) (DpRL.dp hs (by simpa only [PyData.canLay0] using c))
  | _, _, .tup h hs, c => .tup (SqT.of h) (DpRL.dp hs (by simpa only [PyData.canLay0] using c))
  | _, _, .dK _ _ _, c => by simp [PyData.canLay0] at c
theorem DpRL.dp {K : Frag} {H : Hp} : ∀ {vs : List V} {ds : List PyData}, DpRL H vs ds → PyData.canLayAll0 ds = true → DpAll K H vs ds
  | _, _, .nil, _ => .nil
  | _, _, .cons h1 h2, c => by
    simp only [PyData.canLayAll0, Bool.and_eq_true] at c
    exact .cons (DpR.dp h1 c.1) (DpRL.dp h2 c.2)
end
section
variable {K : Frag} {T : Tr}
mutual
theorem Rep.dpP : ∀ {k : Nat} {d : D} {v : V}, d.plain k = true → Rep K T d v → Dp K T.H v d.py
  | _, .non, _, _, h => by rw [h.non]; exact .non
  | _, .bl _, _, _, h => by rw [h.bl]; exact .bl _
  | _, .int _, _, _, h => by rw [h.int]; exact .int _
  | _, .str _, _, _, h => by rw [h.str]; exact .str _
  | k + 1, .lst xs, _, p, h => by
    obtain ⟨a, vs, rfl, _, e, r⟩ := h.lst
    simp only [D.plain] at p
    exact .lst (SqL.of e) (RepL.dpP p r)
  | k + 1, .tup xs, _, p, h => by
    obtain ⟨a, vs, rfl, _, e, r⟩ := h.tup
    simp only [D.plain] at p
    exact .tup (SqT.of e) (RepL.dpP p r)
  | 0, .lst _, _, p, _ => by simp [D.plain] at p
  | 0, .tup _, _, p, _ => by simp [D.plain] at p
  | k, .dct _ _ _, _, p, _ => by cases k <;> simp [D.plain] at p
  | k, .ref _, _, p, _ => by cases k <;> simp [D.plain] at p
  | k, .fn _, _, p, _ => by cases k <;> simp [D.plain] at p
  | k, .exc _ _, _, p, _ => by cases k <;> simp [D.plain] at p
  | k, .scr _, _, p, _ => by cases k <;> simp [D.plain] at p
theorem RepL.dpP : ∀ {k : Nat} {ds : List D} {vs : List V}, D.plainL k ds = true → RepL K T ds vs → DpAll K T.H vs (D.pyL ds)
  | _, [], _, _, h => by rw [h.nil_inv]; exact .nil
  | k, d :: ds, _, p, h => by
    obtain ⟨v, r, rfl, h1, h2⟩ := h.cons_inv
    simp only [D.plainL, Bool.and_eq_true] at p
    exact .cons (Rep.dpP p.1 h1) (RepL.dpP p.2 h2)
end
end
theorem pyL_map : ∀ ds : List D, D.pyL ds = ds.map D.py
  | [] => rfl
  | d :: ds => by simp [D.pyL, pyL_map ds]
theorem plainL_mem : ∀ {k : Nat} {ds : List D}, D.plainL k ds = true → ∀ d ∈ ds, d.plain k = true
  | _, [], _, d, h => by simp at h
  | k, x :: ds, p, d, h => by
    simp only [D.plainL, Bool.and_eq_true] at p
    rcases List.mem_cons.mp h with rfl | h
    · exact p.1
    · exact plainL_mem p.2 d h
section
variable {K : Frag} {T : Tr} {S : Store}
theorem rd_plain (s : SOk K T S) {d : D} {v : V} {x : D} (h : Rep K T d v) (e : rd S d = some x) (hk : x.plain DEEP = true) : Dp K T.H v x.py :=
  (rd_dp s h e (plainR_of _ _ hk)).dp (canLay_plain _ _ hk)
theorem flatV_of {d : D} {v : V} (h : Rep K T d v) (e : d.plain 0 = true) : flatV v = true := by
  cases d with
  | non => rw [h.non]; rfl
  | bl b => rw [h.bl]; rfl
  | int b => rw [h.int]; rfl
  | str b => rw [h.str]; rfl
  | _ => simp [D.plain] at e
theorem eqV_of {d e : D} {v u : V} (h : Rep K T d v) (g : Rep K T e u) (hd : d.plain 0 = true) (he : e.plain 0 = true) : eqV v u = eqD d e := by
  cases d with
  | non => rw [h.non]; cases e with
    | non => rw [g.non]; rfl
    | bl b => rw [g.bl]; rfl
    | int b => rw [g.int]; rfl
    | str b => rw [g.str]; rfl
    | _ => simp [D.plain] at he
  | bl a => rw [h.bl]; cases e with
    | non => rw [g.non]; rfl
    | bl b => rw [g.bl]; rfl
    | int b => rw [g.int]; simp [L2.eqV, eqD, b2i] <;> rfl
    | str b => rw [g.str]; rfl
    | _ => simp [D.plain] at he
  | int a => rw [h.int]; cases e with
    | non => rw [g.non]; rfl
    | bl b => rw [g.bl]; simp [L2.eqV, eqD, b2i] <;> rfl
    | int b => rw [g.int]; rfl
    | str b => rw [g.str]; rfl
    | _ => simp [D.plain] at he
  | str a => rw [h.str]; cases e with
    | non => rw [g.non]; rfl
    | bl b => rw [g.bl]; rfl
    | int b => rw [g.int]; rfl
    | str b => rw [g.str]; simp [L2.eqV, eqD] <;> rfl
    | _ => simp [D.plain] at he
  | _ => simp [D.plain] at hd
theorem plain_rd {S : Store} {d x : D} (e : rd S d = some x) (hx : x.plain 0 = true) (hd : ∀ n, d ≠ .ref n) : d = x := by
  unfold rd at e
  rw [flat_unf] at e
  cases d with
  | lst xs => simp only [D.trav, Option.map_eq_some_iff] at e; obtain ⟨ys, _, rfl⟩ := e; simp [D.plain] at hx
  | tup xs => simp only [D.trav, Option.map_eq_some_iff] at e; obtain ⟨ys, _, rfl⟩ := e; simp [D.plain] at hx
  | dct t ks xs => simp only [D.trav, Option.map_eq_some_iff] at e; obtain ⟨ys, _, rfl⟩ := e; simp [D.plain] at hx
  | ref n => exact absurd rfl (hd n)
  | exc k d => simp only [D.trav, Option.map_eq_some_iff] at e; obtain ⟨ys, _, rfl⟩ := e; simp [D.plain] at hx
  | _ => simp only [D.trav, Option.some.injEq] at e; exact e
theorem plain_ref {S : Store} {x : D} {n : Nat} (e : rd S (.ref n) = some x) : x.plain 0 = false := by
  unfold rd at e
  simp only [flat, D.trav] at e
  split at e
  · rename_i hn; exact absurd hn (Nat.not_lt_zero _)
  · split at e
    · simp only [Option.map_eq_some_iff] at e; obtain ⟨ys, _, rfl⟩ := e; simp [D.plain]
    · simp only [Option.map_eq_some_iff] at e; obtain ⟨ys, _, rfl⟩ := e; simp [D.plain]
    · simp only [Option.map_eq_some_iff] at e; obtain ⟨ys, _, rfl⟩ := e; simp [D.plain]
    · cases e
theorem plain0 {S : Store} {d x : D} (e : rd S d = some x) (hx : x.plain 0 = true) : d = x := by
  refine plain_rd e hx fun n en => ?_
  subst en
  rw [plain_ref e] at hx; cases hx
theorem plain0L {S : Store} : ∀ {ds xs : List D}, D.travL (fun n => rd S (.ref n)) ds = some xs → D.plainL 0 xs = true → ds = xs
  | [], xs, e, _ => by simp only [D.travL, Option.some.injEq] at e; exact e
  | d :: ds, xs, e, h => by
    simp only [D.travL, Option.bind_eq_some_iff, Option.map_eq_some_iff] at e
    obtain ⟨y, e1, ys, e2, rfl⟩ := e
    simp only [D.plainL, Bool.and_eq_true] at h
    have e3 : rd S d = some y := by unfold rd; rw [flat_unf]; exact e1
    rw [plain0 e3 h.1, plain0L e2 h.2]
/-! keys -/
theorem key_rep {k : D} {v : V} {q : KY} (h : Rep K T k v) (e : keyD k = some q) : (∃ x, q = .k x ∧ v = kV x) ∨ ∃ xs a, q = .t xs ∧ v = .ref a ∧ T.H a = some (.tup (xs.map kV)) := by
  cases k with
  | int i => simp only [keyD, Option.some.injEq] at e; subst e; exact .inl ⟨.inl i, rfl, h.int⟩
  | str i => simp only [keyD, Option.some.injEq] at e; subst e; exact .inl ⟨.inr i, rfl, h.str⟩
  | tup xs =>
    simp only [keyD, Option.map_eq_some_iff] at e
    obtain ⟨ks, e1, rfl⟩ := e
    obtain ⟨a, vs, rfl, _, e2, r⟩ := h.tup
    refine .inr ⟨ks, a, rfl, rfl, ?_⟩
    rw [e2]
    refine congrArg (fun z => some (HO.tup z)) ?_
    clear e2 h
    induction xs generalizing ks vs with
    | nil => simp only [keyD.go, Option.some.injEq] at e1; subst e1; exact r.nil_inv
    | cons x xs ih =>
      obtain ⟨v, vr, rfl, h1, h2⟩ := r.cons_inv
      cases x with
      | int i =>
        simp only [keyD.go, Option.map_eq_some_iff] at e1
        obtain ⟨k2, e1, rfl⟩ := e1
        rw [h1.int, ih k2 e1 vr h2]; rfl
      | str i =>
        simp only [keyD.go, Option.map_eq_some_iff] at e1
        obtain ⟨k2, e1, rfl⟩ := e1
        rw [h1.str, ih k2 e1 vr h2]; rfl
      | _ => simp [keyD.go] at e1
  | _ => simp [keyD] at e
/-- the value at a key, in both -/
theorem find_rep {κ : Type} [DecidableEq κ] {c : κ → KY} (hc : ∀ a b, c a = c b → a = b) {k : κ} : ∀ {kvs : List (KY × D)} {us : List (κ × V)}, kvs.map (·.1) = us.map (fun p => c p.1) → RepL K T (kvs.map (·.2)) (us.map (·.2)) →
    (assoc (c k) kvs = none ∧ valV us k = none) ∨ ∃ d v, assoc (c k) kvs = some d ∧ valV us k = some v ∧ Rep K T d v
  | [], [], _, _ => .inl ⟨rfl, rfl⟩
  | [], _ :: _, e, _ => by simp at e
  | _ :: _, [], e, _ => by simp at e
  | (q, d) :: kvs, (p, v) :: us, e, r => by
    simp only [List.map_cons, List.cons.injEq] at e
    obtain ⟨v', r', e2, h1, h2⟩ := r.cons_inv
    simp only [List.map_cons, List.cons.injEq] at e2
    obtain ⟨rfl, rfl⟩ := e2
    by_cases hk : p = k
    · subst hk
      refine .inr ⟨d, v, ?_, ?_, h1⟩
      · simp [assoc, List.find?_cons, e.1]
      · simp [valV, List.find?_cons]
    · have hq : q ≠ c k := fun z => hk (hc _ _ (e.1.symm.trans z))
      rcases find_rep (k := k) hc e.2 h2 with ⟨g1, g2⟩ | ⟨d', v', g1, g2, g3⟩
      · refine .inl ⟨?_, ?_⟩
        · simp only [assoc, List.find?_cons, hq, decide_false] at g1 ⊢; exact g1
        · simp only [valV, List.find?_cons, hk, decide_false] at g2 ⊢; exact g2
      · refine .inr ⟨d', v', ?_, ?_, g3⟩
        · simp only [assoc, List.find?_cons, hq, decide_false] at g1 ⊢; exact g1
        · simp only [valV, List.find?_cons, hk, decide_false] at g2 ⊢; exact g2
theorem dget_rep (s : SOk K T S) {d k : D} {v y : V} {t : Bool} {kvs : List (KY × D)} {q : KY} (hd : Rep K T d v) (e : dctD S d = some (t, kvs)) (hk : Rep K T k y) (eq : keyD k = some q) (ht : (q.ofT == t) = true) :
    ∃ a o, v = .ref a ∧ DGet T.H a y o ∧ ((assoc q kvs = none ∧ o = none) ∨ ∃ d v, assoc q kvs = some d ∧ o = some v ∧ Rep K T d v) := by
  obtain ⟨a, u, vs, rfl, ru, dk, r⟩ := dctD_rep s hd e
  rcases dk with ⟨rfl, us, rfl, e1, rfl⟩ | ⟨rfl, us, rfl, e1, rfl⟩
  · rcases key_rep hk eq with ⟨x, rfl, rfl⟩ | ⟨xs, b, rfl, rfl, _⟩
    · exact ⟨a, _, rfl, .inl ⟨us, x, ru, rfl, rfl⟩, find_rep (c := KY.k) (fun _ _ z => KY.k.inj z) e1 r⟩
    · cases ht
  · rcases key_rep hk eq with ⟨x, rfl, rfl⟩ | ⟨xs, b, rfl, rfl, hb⟩
    · cases ht
    · exact ⟨a, _, rfl, .inr ⟨us, xs, b, ru, rfl, hb, rfl⟩, find_rep (c := KY.t) (fun _ _ z => KY.t.inj z) e1 r⟩
end
section
variable {X : Cx}
/-! ## comparisons -/
def cop : COp → CmpOp
  | .eq => .Eq
  | .ne => .NotEq
  | .lt => .Lt
  | .le => .LtE
  | .gt => .Gt
  | .ge => .GtE
  | .is_ => .Is
  | .isnot => .IsNot
  | .in_ => .In
  | .notin => .NotIn
def CmpOk (X : Cx) (op : COp) : Prop :=
  ∃ r, OpR X (compareOp (cop op)) r ∧ ∀ (T : Tr) (S : Store) (x y : V) (a b : D) (k : Bool) (Q : VK), SOk X.K T S → Rep X.K T a x → Rep X.K T b y → cmpD S op a b = some k → Q (.bl k) T.H → r x y T.H Q
theorem cmpEq_cases {T : Tr} {S : Store} {x y : V} {a b : D} {k : Bool} (s : SOk X.K T S) (ha : Rep X.K T a x) (hb : Rep X.K T b y) (e : cmpEq S a b = some k) :
    (scal x y = true ∧ decide (x = y) = k) ∨ ∃ d f, Dp X.K T.H x d ∧ Dp X.K T.H y f ∧ SeqAt.shaped d = true ∧ SeqAt.shaped f = true ∧ PyData.eqv d f = k := by
  unfold cmpEq at e
  split at e
  · rw [ha.int, hb.int]; cases e
    exact .inl ⟨rfl, by rw [dec_int]⟩
  · rw [ha.str, hb.str]; cases e
    exact .inl ⟨rfl, by rw [dec_str]; rfl⟩
  · rw [ha.bl, hb.bl]; cases e
    exact .inl ⟨rfl, by rw [dec_bl]⟩
  · rw [ha.non, hb.non]; cases e
    exact .inl ⟨rfl, rfl⟩
  · split at e
    · rename_i x' y' e1 e2
      split at e
      · rename_i hz
        rw [Bool.and_eq_true] at hz
        cases e
        exact .inr ⟨_, _, rd_plain s ha e1 hz.1, rd_plain s hb e2 hz.2, shaped_plain hz.1, shaped_plain hz.2, eqD_py _ _ _ hz.1 hz.2⟩
      · cases e
    · cases e
theorem ok_eq (hu : X.A.units + 64 < cLine) : CmpOk X .eq := by
  refine ⟨_, op_eq.or (op_eqD hu), fun T S x y a b k Q s ha hb e q => ?_⟩
  rcases cmpEq_cases s ha hb e with ⟨h1, h2⟩ | ⟨d, f, h1, h2, h3, h4, h5⟩
  · exact .inl ⟨h1, by rw [h2]; exact q⟩
  · exact .inr ⟨d, f, h1, h2, h3, h4, by rw [h5]; exact q⟩
theorem ok_ne (hu : X.A.units + 64 < cLine) : CmpOk X .ne := by
  refine ⟨_, op_ne.or (op_neD hu), fun T S x y a b k Q s ha hb e q => ?_⟩
  simp only [cmpD, Option.map_eq_some_iff] at e
  obtain ⟨k', e, rfl⟩ := e
  rcases cmpEq_cases s ha hb e with ⟨h1, h2⟩ | ⟨d, f, h1, h2, h3, h4, h5⟩
  · exact .inl ⟨h1, by rw [h2]; exact q⟩
  · exact .inr ⟨d, f, h1, h2, h3, h4, by rw [h5]; exact q⟩
theorem dp_reads {pins : List (Addr × Obj)} {σ : L2.St} {H : Hp} {s : Shared} (I : L2.Inv X pins σ H s) {d : PyData} {v : V} {u : Value} (h : Dp X.K H v d) (r : RelV v u) : ∃ as, Reads s.heap u d as := L2.Dp.reads I _ _ _ h r
def rLtD (K : Frag) (b : Bool) : V → V → Hp → VK → Prop := fun x y H Q => ∃ d f, Dp K H x d ∧ Dp K H y f ∧ PySem.W.alike d f = true ∧ d ≠ .none ∧ d.depth ≤ 60 ∧ Q (.bl (if b = true then PySem.W.dataLt f d else PySem.W.dataLt d f)) H
theorem op_ltD (hu : X.A.units + 64 < cLine) : OpR X (compareOp .Lt) (rLtD X.K false) := by
  intro pins s σ H x y v u Q I rx ry h
  obtain ⟨d, f, h1, h2, h3, h4, h5, q⟩ := h
  obtain ⟨as, r1⟩ := dp_reads I h1 rx
  obtain ⟨bs, r2⟩ := dp_reads I h2 ry
  exact PySem.W.lt_data r1 r2 h3 h4 (by omega) ⟨.bl (PySem.W.dataLt d f), H, I, rfl, q⟩
theorem op_gtD (hu : X.A.units + 64 < cLine) : OpR X (compareOp .Gt) (rLtD X.K true) := by
  intro pins s σ H x y v u Q I rx ry h
  obtain ⟨d, f, h1, h2, h3, h4, h5, q⟩ := h
  obtain ⟨as, r1⟩ := dp_reads I h1 rx
  obtain ⟨bs, r2⟩ := dp_reads I h2 ry
  exact PySem.W.gt_data r1 r2 h3 h4 (by omega) ⟨.bl (PySem.W.dataLt f d), H, I, rfl, q⟩
theorem ordD_rep {T : Tr} {x y : V} {a b : D} {k : Bool} (ha : Rep X.K T a x) (hb : Rep X.K T b y) (e : ordD a b = some k) : Dp X.K T.H x a.py ∧ Dp X.K T.H y b.py ∧ PySem.W.alike a.py b.py = true ∧ a.py ≠ .none ∧ a.py.depth ≤ 60 ∧ b.py ≠ .none ∧ b.py.depth ≤ 60 ∧ PySem.W.dataLt a.py b.py = k := by
  unfold ordD at e
  split at e
  · rename_i hz
    simp only [Bool.and_eq_true] at hz
    obtain ⟨⟨⟨h0, h1⟩, h2⟩, h3⟩ := hz
    cases e
    have n1 : a.py ≠ .none := by cases a <;> simp [D.isSeq] at h0 <;> simp [D.py]
    have n2 : b.py ≠ .none := by
      intro z
      rw [z] at h3
      cases a <;> simp [D.isSeq] at h0 <;> simp [D.py, PySem.W.alike] at h3
    exact ⟨Rep.dpP h1 ha, Rep.dpP h2 hb, h3, n1, Nat.le_trans (depth_plain 10 _ (plainR_of _ _ h1)) (by decide), n2, Nat.le_trans (depth_plain 10 _ (plainR_of _ _ h2)) (by decide), rfl⟩
  · cases e
theorem ok_lt (hu : X.A.units + 64 < cLine) : CmpOk X .lt := by
  refine ⟨_, (op_lt.or op_lt_str).or (op_ltD hu), fun T S x y a b k Q s ha hb e q => ?_⟩
  replace e := (show ltD a b = some k from e)
  unfold ltD at e
  split at e
  · rw [ha.int, hb.int]; cases e; exact .inl (.inl ⟨_, _, rfl, rfl, q⟩)
  · rw [ha.str, hb.str]; cases e; exact .inl (.inr ⟨_, _, rfl, rfl, q⟩)
  · obtain ⟨h1, h2, h3, h4, h5, _, _, h6⟩ := ordD_rep ha hb e
    exact .inr ⟨_, _, h1, h2, h3, h4, h5, by rw [if_neg (by decide), h6]; exact q⟩
def rGeD (K : Frag) (b : Bool) : V → V → Hp → VK → Prop := fun x y H Q => ∃ d f, Dp K H x d ∧ Dp K H y f ∧ PySem.W.alike d f = true ∧ d ≠ .none ∧ d.depth ≤ 60 ∧ Q (.bl (if b = true then !PySem.W.dataLt f d else !PySem.W.dataLt d f)) H
theorem op_geD (hu : X.A.units + 64 < cLine) : OpR X (compareOp .GtE) (rGeD X.K false) := by
  intro pins s σ H x y v u Q I rx ry h
  obtain ⟨d, f, h1, h2, h3, h4, h5, q⟩ := h
  obtain ⟨as, r1⟩ := dp_reads I h1 rx
  obtain ⟨bs, r2⟩ := dp_reads I h2 ry
  exact PySem.W.ge_data r1 r2 h3 h4 (by omega) ⟨.bl (!PySem.W.dataLt d f), H, I, rfl, q⟩
theorem op_leD (hu : X.A.units + 64 < cLine) : OpR X (compareOp .LtE) (rGeD X.K true) := by
  intro pins s σ H x y v u Q I rx ry h
  obtain ⟨d, f, h1, h2, h3, h4, h5, q⟩ := h
  obtain ⟨as, r1⟩ := dp_reads I h1 rx
  obtain ⟨bs, r2⟩ := dp_reads I h2 ry
  exact PySem.W.le_data r1 r2 h3 h4 (by omega) ⟨.bl (!PySem.W.dataLt f d), H, I, rfl, q⟩
theorem ok_le (hu : X.A.units + 64 < cLine) : CmpOk X .le := by
  refine ⟨_, op_le.or (op_leD hu), fun T S x y a b k Q s ha hb e q => ?_⟩
  replace e := (show leI a b = some k from e)
  unfold leI at e
  split at e
  · rw [ha.int, hb.int]; cases e; exact .inl ⟨_, _, rfl, rfl, q⟩
  · split at e
    · obtain ⟨k', e', rfl⟩ := Option.map_eq_some_iff.mp e
      obtain ⟨h1, h2, h3, h4, h5, h7, h8, h6⟩ := ordD_rep hb ha e'
      exact .inr ⟨_, _, h2, h1, by rw [PySem.W.alike_comm]; exact h3, h7, h8, by rw [if_pos rfl, h6]; exact q⟩
    · cases e
theorem ok_gt (hu : X.A.units + 64 < cLine) : CmpOk X .gt := by
  refine ⟨_, (op_gt.or op_gt_str).or (op_gtD hu), fun T S x y a b k Q s ha hb e q => ?_⟩
  replace e := (show gtD a b = some k from e)
  unfold gtD at e
  split at e
  · rw [ha.int, hb.int]; cases e; exact .inl (.inl ⟨_, _, rfl, rfl, q⟩)
  · rw [ha.str, hb.str]; cases e; exact .inl (.inr ⟨_, _, rfl, rfl, q⟩)
  · split at e
    · obtain ⟨h1, h2, h3, h4, h5, h7, h8, h6⟩ := ordD_rep hb ha e
      exact .inr ⟨_, _, h2, h1, by rw [PySem.W.alike_comm]; exact h3, h7, h8, by rw [if_pos rfl, h6]; exact q⟩
    · cases e
theorem ok_ge (hu : X.A.units + 64 < cLine) : CmpOk X .ge := by
  refine ⟨_, (op_ge.or op_ge_str).or (op_geD hu), fun T S x y a b k Q s ha hb e q => ?_⟩
  replace e := (show geD a b = some k from e)
  unfold geD at e
  split at e
  · rw [ha.int, hb.int]; cases e; exact .inl (.inl ⟨_, _, rfl, rfl, q⟩)
  · rw [ha.str, hb.str]; cases e; exact .inl (.inr ⟨_, _, rfl, rfl, q⟩)
  · obtain ⟨k', e', rfl⟩ := Option.map_eq_some_iff.mp e
    obtain ⟨h1, h2, h3, h4, h5, _, _, h6⟩ := ordD_rep ha hb e'
    exact .inr ⟨_, _, h1, h2, h3, h4, h5, by rw [if_neg (by decide), h6]; exact q⟩
end
end LH

namespace LH
open PySem PySem.W L2 PySem.Spec PyProof.Rows
mutual
theorem plain_up : ∀ (k : Nat) (d : D), d.plain k = true → d.plain (k + 1) = true
  | k, .non, _ => by simp [D.plain]
  | k, .bl _, _ => by simp [D.plain]
  | k, .int _, _ => by simp [D.plain]
  | k, .str _, h => by cases k <;> simpa only [D.plain] using h
  | 0, .lst _, h => by simp [D.plain] at h
  | 0, .tup _, h => by simp [D.plain] at h
  | k + 1, .lst xs, h => by simp only [D.plain] at h ⊢; exact plainL_up k xs h
  | k + 1, .tup xs, h => by simp only [D.plain] at h ⊢; exact plainL_up k xs h
  | k, .dct _ _ _, h => by cases k <;> simp [D.plain] at h
  | k, .ref _, h => by cases k <;> simp [D.plain] at h
  | k, .fn _, h => by cases k <;> simp [D.plain] at h
  | k, .exc _ _, h => by cases k <;> simp [D.plain] at h
  | k, .scr _, h => by cases k <;> simp [D.plain] at h
theorem plainL_up : ∀ (k : Nat) (ds : List D), D.plainL k ds = true → D.plainL (k + 1) ds = true
  | _, [], _ => by simp [D.plainL]
  | k, d :: ds, h => by
    simp only [D.plainL, Bool.and_eq_true] at h ⊢
    exact ⟨plain_up k d h.1, plainL_up k ds h.2⟩
end
theorem any_py {k : Nat} {d : D} (hd : d.plain k = true) : ∀ {ds : List D}, D.plainL k ds = true → ((D.pyL ds).any fun z => PyData.eqv z d.py) = ds.any fun z => eqD z d
  | [], _ => by simp [D.pyL]
  | x :: ds, h => by
    simp only [D.plainL, Bool.and_eq_true] at h
    simp only [D.pyL, List.any_cons, eqD_py k x d h.1 hd, any_py hd h.2]
section
variable {K : Frag} {T : Tr} {S : Store}
theorem travL_rd_dp (s : SOk K T S) {ds : List D} {vs : List V} {xs : List D} (h : RepL K T ds vs) (e : D.travL (fun n => rd S (.ref n)) ds = some xs) {k : Nat} (hk : D.plainRL k xs = true) : DpRL T.H vs (D.pyL xs) :=
  travL_dp (fun n v y h e k hk => rd_dp s h e hk) h e k hk
theorem rep_non {d : D} {v : V} (h : Rep K T d v) (hd : d ≠ .non) : v ≠ .non := by
  cases d with
  | non => exact absurd rfl hd
  | bl b => rw [h.bl]; simp
  | int b => rw [h.int]; simp
  | str b => rw [h.str]; simp
  | lst xs => obtain ⟨a, vs, rfl, _⟩ := h.lst; simp
  | tup xs => obtain ⟨a, vs, rfl, _⟩ := h.tup; simp
  | dct t ks xs => obtain ⟨a, u, vs, rfl, _⟩ := h.dct; simp
  | ref n => rw [h.ref.2]; simp
  | fn n => obtain ⟨a, rfl, _⟩ := h.fn; simp
  | exc k d => obtain ⟨a, _, _, _, _, _, rfl, _⟩ := h.exc; simp
  | scr n => obtain ⟨a, rfl, _⟩ := h.scr; simp
theorem RepL.flat : ∀ {ds : List D} {vs : List V}, RepL K T ds vs → D.plainL 0 ds = true → vs.all flatV = true
  | [], _, h, _ => by rw [h.nil_inv]; rfl
  | d :: ds, _, h, p => by
    obtain ⟨v, r, rfl, h1, h2⟩ := h.cons_inv
    simp only [D.plainL, Bool.and_eq_true] at p
    simp only [List.all_cons, flatV_of h1 p.1, RepL.flat h2 p.2, Bool.and_self]
theorem RepL.inV {d : D} {v : V} (hd : Rep K T d v) (pd : d.plain 0 = true) : ∀ {ds : List D} {vs : List V}, RepL K T ds vs → D.plainL 0 ds = true → (vs.any fun y => eqV y v) = ds.any fun z => eqD z d
  | [], _, h, _ => by rw [h.nil_inv]; rfl
  | x :: ds, _, h, p => by
    obtain ⟨u, r, rfl, h1, h2⟩ := h.cons_inv
    simp only [D.plainL, Bool.and_eq_true] at p
    simp only [List.any_cons, eqV_of h1 hd p.1 pd, RepL.inV hd pd h2 p.2]
end
section
variable {X : Cx}
def notB : V → Bool
  | .non => true
  | .int _ => true
  | .str _ => true
  | .ref _ => true
  | _ => false
theorem op_isO : OpR X (compareOp .Is) (fun x y H Q => (∃ b, y = .bl b) ∧ notB x = true ∧ Q (.bl false) H) := by
  intro pins s σ H x y v u Q I rx ry h
  obtain ⟨⟨b, rfl⟩, hx, q⟩ := h
  cases (show u = Value.bool b from ry)
  cases x <;> simp [notB] at hx
  · cases rx; exact PySem.wpAny_is_other rfl (by simp) ⟨.bl false, H, I, rfl, q⟩
  · obtain ⟨t, rfl⟩ := rx; exact PySem.wpAny_is_other rfl (by simp) ⟨.bl false, H, I, rfl, q⟩
  · obtain ⟨t, rfl⟩ := rx; exact PySem.wpAny_is_other rfl (by simp) ⟨.bl false, H, I, rfl, q⟩
  · cases rx; exact PySem.wpAny_is_other rfl (by simp) ⟨.bl false, H, I, rfl, q⟩
theorem op_isnO : OpR X (compareOp .IsNot) (fun x y H Q => (∃ b, y = .bl b) ∧ notB x = true ∧ Q (.bl true) H) := by
  intro pins s σ H x y v u Q I rx ry h
  obtain ⟨⟨b, rfl⟩, hx, q⟩ := h
  cases (show u = Value.bool b from ry)
  cases x <;> simp [notB] at hx
  · cases rx; exact PySem.wpAny_isNot_other rfl (by simp) ⟨.bl true, H, I, rfl, q⟩
  · obtain ⟨t, rfl⟩ := rx; exact PySem.wpAny_isNot_other rfl (by simp) ⟨.bl true, H, I, rfl, q⟩
  · obtain ⟨t, rfl⟩ := rx; exact PySem.wpAny_isNot_other rfl (by simp) ⟨.bl true, H, I, rfl, q⟩
  · cases rx; exact PySem.wpAny_isNot_other rfl (by simp) ⟨.bl true, H, I, rfl, q⟩
theorem rep_notB {K : Frag} {T : Tr} {d : D} {v : V} (h : Rep K T d v) (hf : d.isFn = false) (hb : ∀ b, d = .bl b → False) : notB v = true := by
  cases d with
  | non => rw [h.non]; rfl
  | bl b => exact (hb b rfl).elim
  | int b => rw [h.int]; rfl
  | str b => rw [h.str]; rfl
  | lst xs => obtain ⟨a, vs, rfl, _⟩ := h.lst; rfl
  | tup xs => obtain ⟨a, vs, rfl, _⟩ := h.tup; rfl
  | dct t ks xs => obtain ⟨a, u, vs, rfl, _⟩ := h.dct; rfl
  | ref n => rw [h.ref.2]; rfl
  | fn n => cases hf
  | exc k d => obtain ⟨a, _, _, _, _, _, rfl, _⟩ := h.exc; rfl
  | scr n => obtain ⟨a, rfl, _⟩ := h.scr; rfl
theorem ok_is : CmpOk X .is_ := by
  refine ⟨_, (op_isN.or op_isBl).or op_isO, fun T S x y a b k Q s ha hb e q => ?_⟩
  replace e := (show isD a b = some k from e)
  unfold isD at e
  split at e
  · refine .inl (.inl ⟨hb.non, ?_⟩)
    split at e
    · cases e; rw [ha.non]; exact q
    · cases e
    · rename_i h1 h2
      cases e
      rw [decide_eq_false (rep_non ha h1)]; exact q
  · cases e
    rw [ha.bl, hb.bl]
    exact .inl (.inr ⟨_, _, rfl, rfl, q⟩)
  · split at e
    · cases e
    · rename_i hnb hf
      cases e
      exact .inr ⟨⟨_, hb.bl⟩, rep_notB ha (by simpa using hf) (fun b z => hnb b z), q⟩
  · cases e
theorem ok_isnot : CmpOk X .isnot := by
  refine ⟨_, (op_notN.or op_notBl).or op_isnO, fun T S x y a b k Q s ha hb e q => ?_⟩
  replace e := (show isnD a b = some k from e)
  unfold isnD at e
  split at e
  · refine .inl (.inl ⟨hb.non, ?_⟩)
    split at e
    · cases e; rw [ha.non]; exact q
    · cases e
    · rename_i h1 h2
      cases e
      rw [decide_eq_false (rep_non ha h1)]; exact q
  · cases e
    rw [ha.bl, hb.bl]
    exact .inl (.inr ⟨_, _, rfl, rfl, q⟩)
  · split at e
    · cases e
    · rename_i hnb hf
      cases e
      exact .inr ⟨⟨_, hb.bl⟩, rep_notB ha (by simpa using hf) (fun b z => hnb b z), q⟩
  · cases e
theorem op_din (hu : X.A.units + 1 < cLine) : OpR X (compareOp .In) (fun x y H Q => ∃ a o, y = .ref a ∧ DGet H a x o ∧ Q (.bl o.isSome) H) := by
  intro pins s σ H x y v u Q I rx ry h
  obtain ⟨a, o, rfl, g, q⟩ := h
  cases ry
  exact d_in hu I g rx fun s3 I3 => ⟨.bl o.isSome, H, I3, rfl, q⟩
theorem op_dnotin (hu : X.A.units + 1 < cLine) : OpR X (compareOp .NotIn) (fun x y H Q => ∃ a o, y = .ref a ∧ DGet H a x o ∧ Q (.bl (!o.isSome)) H) := by
  intro pins s σ H x y v u Q I rx ry h
  obtain ⟨a, o, rfl, g, q⟩ := h
  cases ry
  exact d_notIn hu I g rx fun s3 I3 => ⟨.bl (!o.isSome), H, I3, rfl, q⟩
theorem inD_cases {T : Tr} {S : Store} {x y : V} {a b : D} {k : Bool} (s : SOk X.K T S) (ha : Rep X.K T a x) (hb : Rep X.K T b y) (e : inD S a b = some k) :
    (∃ i j, x = .str i ∧ y = .str j ∧ (!(Builtin.Str.occurrences j i 0 j.length 1).isEmpty) = k) ∨
    (∃ d ds, Dp X.K T.H x d ∧ Dp X.K T.H y (.list ds) ∧ SeqAt.shaped d = true ∧ SeqAt.shaped (.list ds) = true ∧ (ds.any fun z => PyData.eqv z d) = k) ∨
    (∃ p xs, y = .ref p ∧ SqT X.K T.H p xs ∧ flatV x = true ∧ xs.all flatV = true ∧ L2.inV x xs = k) ∨
    ∃ a o, y = .ref a ∧ DGet T.H a x o ∧ o.isSome = k := by
  unfold inD at e
  split at e
  · split at e
    · cases e
      exact .inl ⟨_, _, ha.str, hb.str, rfl⟩
    · cases e
  · split at e
    · rename_i xs h1
      split at e
      · rename_i d ds e1 e2
        split at e
        · rename_i hz
          rw [Bool.and_eq_true] at hz
          cases e
          obtain ⟨p, vs, rfl, ep, r⟩ := lstD_rep s hb h1
          have h3 : D.plainL 19 ds = true := by have h := hz.2; unfold DEEP at h; simp only [D.plain] at h; exact h
          refine .inr (.inl ⟨d.py, D.pyL ds, rd_plain s ha e1 hz.1, .lst (SqL.of ep) ((travL_rd_dp s r e2 (plainRL_of _ _ h3)).dp (canLayL_plain _ _ h3)), shaped_plain hz.1, ?_, ?_⟩)
          · have := shaped_plain hz.2
            simpa only [D.py] using this
          · exact any_py (k := 20) hz.1 (plainL_up 19 ds h3)
        · cases e
      · cases e
    · split at e
      · rename_i xs _
        split at e
        · rename_i d ds e1 e2
          split at e
          · rename_i hz
            rw [Bool.and_eq_true] at hz
            cases e
            have h1 := plain0 e1 hz.1
            have h2 := plain0L e2 hz.2
            subst h1 h2
            obtain ⟨p, vs, rfl, _, ep, r⟩ := hb.tup
            exact .inr (.inr (.inl ⟨p, vs, rfl, .inl (.inl ep), flatV_of ha hz.1, r.flat hz.2, RepL.inV ha hz.1 r hz.2⟩))
          · cases e
        · cases e
      · split at e
        · rename_i t kvs q e1 e2
          split at e
          · rename_i hz
            cases e
            obtain ⟨p, o, rfl, g, ho⟩ := dget_rep s hb e1 ha e2 hz
            refine .inr (.inr (.inr ⟨p, o, rfl, g, ?_⟩))
            rcases ho with ⟨h1, h2⟩ | ⟨d, v, h1, h2, _⟩
            · rw [h1, h2]; rfl
            · rw [h1, h2]; rfl
          · cases e
        · cases e
theorem ok_in (hu : X.A.units + 65 < cLine) : CmpOk X .in_ := by
  refine ⟨_, (op_in_str.or (op_inD hu)).or (op_in_seq.or (op_din (by omega))), fun T S x y a b k Q s ha hb e q => ?_⟩
  have e : inD S a b = some k := by cases b <;> first | exact e | (cases a <;> exact e)
  rcases inD_cases s ha hb e with ⟨i, j, h1, h2, h3⟩ | ⟨d, ds, h1, h2, h3, h4, h5⟩ | ⟨p, xs, h1, h2, h3, h4, h5⟩ | ⟨p, o, h1, h2, h3⟩
  · exact .inl (.inl ⟨i, j, h1, h2, by rw [h3]; exact q⟩)
  · exact .inl (.inr ⟨d, ds, h1, h2, h3, h4, by rw [h5]; exact q⟩)
  · exact .inr (.inl ⟨p, xs, h1, .inr h2, h3, h4, by simp only [Bool.false_eq_true, if_false]; rw [h5]; exact q⟩)
  · exact .inr (.inr ⟨p, o, h1, h2, by rw [h3]; exact q⟩)
theorem ok_notin (hu : X.A.units + 65 < cLine) : CmpOk X .notin := by
  refine ⟨_, (op_notin_str.or (op_notInD hu)).or (op_notIn_seq.or (op_dnotin (by omega))), fun T S x y a b k Q s ha hb e q => ?_⟩
  have e2 : (inD S a b).map (!·) = some k := by cases b <;> first | exact e | (cases a <;> exact e)
  simp only [Option.map_eq_some_iff] at e2
  obtain ⟨k', e3, rfl⟩ := e2
  rcases inD_cases s ha hb e3 with ⟨i, j, h1, h2, h3⟩ | ⟨d, ds, h1, h2, h3, h4, h5⟩ | ⟨p, xs, h1, h2, h3, h4, h5⟩ | ⟨p, o, h1, h2, h3⟩
  · exact .inl (.inl ⟨i, j, h1, h2, by rw [h3]; exact q⟩)
  · exact .inl (.inr ⟨d, ds, h1, h2, h3, h4, by rw [h5]; exact q⟩)
  · exact .inr (.inl ⟨p, xs, h1, .inr h2, h3, h4, by simp only [if_true]; rw [h5]; exact q⟩)
  · exact .inr (.inr ⟨p, o, h1, h2, by rw [h3]; exact q⟩)
theorem ok_cmp (hu : X.A.units + 65 < cLine) (op : COp) : CmpOk X op := by
  cases op with
  | eq => exact ok_eq (by omega)
  | ne => exact ok_ne (by omega)
  | lt => exact ok_lt (by omega)
  | le => exact ok_le (by omega)
  | gt => exact ok_gt (by omega)
  | ge => exact ok_ge (by omega)
  | is_ => exact ok_is
  | isnot => exact ok_isnot
  | in_ => exact ok_in hu
  | notin => exact ok_notin hu
/-! ## truth, items, parts -/
theorem RepL.isEmpty {K : Frag} {T : Tr} {ds : List D} {vs : List V} (h : RepL K T ds vs) : (!ds.isEmpty) = !vs.isEmpty := by
  have := h.length
  cases ds <;> cases vs <;> simp at this ⊢
theorem ok_truth {T : Tr} {S : Store} {x : V} {d : D} {k : Bool} (s : SOk X.K T S) (h : Rep X.K T d x) (e : truthy S d = some k) : TruV X.K x T.H k := by
  unfold truthy at e
  split at e
  · rw [h.non]; cases e; rfl
  · rw [h.bl]; cases e; rfl
  · rw [h.int]; cases e; rfl
  · split at e
    · rename_i hz
      rw [h.str]; cases e
      exact ⟨Nat.le_trans hz LMAX_le, rfl⟩
    · cases e
  · obtain ⟨a, vs, rfl, _, e1, r⟩ := h.lst
    cases e
    exact .inl ⟨vs, SqL.of e1, r.isEmpty⟩
  · obtain ⟨a, vs, rfl, _, e1, r⟩ := h.tup
    cases e
    exact .inr (.inl ⟨vs, SqT.of e1, r.isEmpty⟩)
  · split at e
    · rename_i hs
      cases e
      obtain ⟨_, _, vs, e1, r⟩ := s.ob _ _ hs
      rw [h.ref.2]
      exact .inl ⟨vs, SqL.of e1, r.isEmpty⟩
    · cases e
  · cases e
/-- x[i] -/
theorem ixI_eq (n : Nat) (i : Int) : ixI n i = ixN n i := rfl
theorem atD_rep {K : Frag} {T : Tr} {xs : List D} {vs : List V} {i : Int} {d : D} (r : RepL K T xs vs) (e : atD xs i = some d) : ∃ v, atI vs i = some v ∧ Rep K T d v := by
  unfold atD at e
  simp only [Option.bind_eq_some_iff] at e
  obtain ⟨j, e1, e2⟩ := e
  obtain ⟨v, e3, h⟩ := r.get e2
  refine ⟨v, ?_, h⟩
  unfold atI
  rw [r.length, ixI_eq] at e1
  rw [e1]; exact e3
theorem ix_dget (hu : X.A.units + 1 < cLine) : IxR X (fun x y H Q => ∃ a v, x = .ref a ∧ DGet H a y (some v) ∧ Q v H) := by
  intro value slice pins s σ H x y v u Q I rx ry h hs
  obtain ⟨a, z, rfl, g, q⟩ := h
  cases rx
  exact tail_any (dict_typeIs I g) PySem.F.slot_dict_getitem.lookup (d_getItem hu I g ry fun w' s3 I3 rw' => ⟨z, H, I3, rw', q⟩) hs
def IxOk (X : Cx) : Prop :=
  ∃ r, IxR X r ∧ ∀ (T : Tr) (S : Store) (x y : V) (a b d : D) (Q : VK), SOk X.K T S → Rep X.K T a x → Rep X.K T b y → ixD a b S = some d → (∀ v, Rep X.K T d v → Q v T.H) → r x y T.H Q
theorem ok_ix (hu : X.A.units + 1 < cLine) : IxOk X := by
  refine ⟨_, ix_seq.or (ix_dget hu), fun T S x y a b d Q s ha hb e q => ?_⟩
  unfold ixD at e
  split at e
  · obtain ⟨p, vs, rfl, _, e1, r⟩ := ha.lst
    obtain ⟨v, e2, h⟩ := atD_rep r e
    exact .inl (.inl ⟨p, vs, _, v, rfl, hb.int, SqL.of e1, e2, q v h⟩)
  · obtain ⟨p, vs, rfl, _, e1, r⟩ := ha.tup
    obtain ⟨v, e2, h⟩ := atD_rep r e
    exact .inl (.inr (.inl ⟨p, vs, _, v, rfl, hb.int, SqT.of e1, e2, q v h⟩))
  · obtain ⟨p, rfl, e1⟩ := ha.scr
    obtain ⟨v, e2, h⟩ := atD_rep (K := X.K) (T := T) (RepL.mk_ints _) e
    exact .inl (.inl ⟨p, _, _, v, rfl, hb.int, e1, e2, q v h⟩)
  · split at e
    · rename_i hz
      simp only [Option.map_eq_some_iff] at e
      obtain ⟨c, e1, rfl⟩ := e
      exact .inl (.inr (.inr ⟨_, _, c, ha.str, hb.int, Nat.le_trans hz LMAX_le, e1, q _ Rep.mk_str⟩))
    · cases e
  · split at e
    · rename_i h1 _ _ _ _
      obtain ⟨p, vs, rfl, e1, r⟩ := lstD_rep s ha (by assumption)
      obtain ⟨v, e2, h⟩ := atD_rep r e
      exact .inl (.inl ⟨p, vs, _, v, rfl, hb.int, SqL.of e1, e2, q v h⟩)
    · split at e
      · rename_i t kvs ky h1 h2
        split at e
        · rename_i hz
          obtain ⟨p, o, rfl, g, ho⟩ := dget_rep s ha h1 hb h2 hz
          rcases ho with ⟨h1, _⟩ | ⟨d', v, h1, rfl, h3⟩
          · rw [h1] at e; cases e
          · rw [h1] at e; cases e
            exact .inr ⟨p, v, rfl, g, q v h3⟩
        · cases e
      · cases e
/-- x[lo:hi] -/
theorem cutD_rep {K : Frag} {T : Tr} {xs : List D} {vs : List V} (r : RepL K T xs vs) (lo hi : Option Int) : RepL K T (cutD xs lo hi) (cutV vs lo hi) := by
  unfold cutD cutV
  rw [r.length]
  exact (r.drop _).take _
def SlOk (X : Cx) (m : Bool) : Prop :=
  ∃ r, SlR X r ∧ ∀ (T : Tr) (S : Store) (x : V) (a : D) (lo hi : Option Int) (Q : VK), SOk X.K T S → Rep X.K T a x → Post X.K T (slD m a lo hi S) (kV' X.K Q) → r x lo hi T.H Q
theorem ok_sl (m : Bool) : SlOk X m := by
  refine ⟨_, sl_list.or (sl_tupA.or sl_str), fun T S x a lo hi Q s ha p => ?_⟩
  unfold slD at p
  split at p
  · split at p
    · rename_i hz
      exact .inr (.inr ⟨_, ha.str, Nat.le_trans hz LMAX_le, p.now s _ Rep.mk_str⟩)
    · exact p.elim
  · rename_i xs
    obtain ⟨c, vs, rfl, f, e1, r⟩ := ha.tup
    refine .inr (.inl ⟨c, vs, rfl, SqT.of e1, fun hw => ?_, fun _ z hz => tup_ok s (cutD_rep r lo hi) p hz⟩)
    have e2 : cutD xs lo hi = xs := by
      unfold cutD
      rw [r.length, hw.1, hw.2, List.drop_zero, Nat.sub_zero, ← r.length, List.take_length]
    rw [e2] at p
    exact p.now s _ ha
  · obtain ⟨c, rfl, e1⟩ := ha.scr
    exact .inl ⟨c, _, rfl, e1, fun z hz => mkL_ok s (cutD_rep (RepL.mk_ints _) lo hi) p hz⟩
  · split at p
    · rename_i xs h1
      obtain ⟨c, vs, rfl, e1, r⟩ := lstD_rep s ha h1
      exact .inl ⟨c, vs, rfl, SqL.of e1, fun z hz => mkL_ok s (cutD_rep r lo hi) p hz⟩
    · exact p.elim
end
end LH

namespace LH
open PySem PySem.W L2 PySem.Spec PyProof.Rows
abbrev Sem1 (α : Type) := Env → Store → R α
def truthT (m : Sem1 D) : Sem1 Bool := fun ρ S => (m ρ S).bind fun x S1 => .opt (truthy S1 x) S1
section
variable (K : Frag)
def REnv (T : Tr) (ρ : Env) (σ : L2.St) : Prop := ρ.length = σ.length ∧ ∀ (i : Nat) (d : D), ρ[i]? = some (some d) → ∃ v, σ[i]? = some (some v) ∧ Rep K T d v
def tE (m : Sem1 D) : TE := fun σ H Q => ∃ T ρ S, T.H = H ∧ SOk K T S ∧ REnv K T ρ σ ∧ Post K T (m ρ S) (kV' K Q)
def tB' (m : Sem1 Bool) : TT := fun σ H Q => ∃ T ρ S, T.H = H ∧ SOk K T S ∧ REnv K T ρ σ ∧ Post K T (m ρ S) (kB Q)
def tL (m : Sem1 (List D)) : TA := fun σ H Q => ∃ T ρ S, T.H = H ∧ SOk K T S ∧ REnv K T ρ σ ∧ Post K T (m ρ S) (kL K Q)
end
theorem REnv.mono {K : Frag} {T T' : Tr} {ρ : Env} {σ : L2.St} (h : REnv K T ρ σ) (e : Ext T T') : REnv K T' ρ σ :=
  ⟨h.1, fun i d q => let ⟨v, a, b⟩ := h.2 i d q; ⟨v, a, b.mono e⟩⟩
theorem pe_weak {X : Cx} {e : Expr} {t t' : TE} (h : PE X e t) (f : ∀ σ H Q, t' σ H Q → t σ H Q) : PE X e t' := ⟨fun pins s σ H Q I q => h.run pins s σ H Q I (f σ H Q q)⟩
theorem pt_weak {X : Cx} {e : Expr} {t t' : TT} (h : PT X e t) (f : ∀ σ H Q, t' σ H Q → t σ H Q) : PT X e t' := ⟨fun pins s σ H Q I q => h.run pins s σ H Q I (f σ H Q q)⟩
theorem pw_weak {X : Cx} {e : Expr} {t t' : TT} (h : PW X e t) (f : ∀ σ H Q, t' σ H Q → t σ H Q) : PW X e t' := ⟨fun wh pins s σ H Q I q => h.run wh pins s σ H Q I (f σ H Q q)⟩
theorem pa_weak {X : Cx} {e : List Expr} {t t' : TA} (h : PA X e t) (f : ∀ σ H Q, t' σ H Q → t σ H Q) : PA X e t' := ⟨fun pos pins s σ H Q I q => h.run pos pins s σ H Q I (f σ H Q q)⟩
section
variable {K : Frag}
/-- go on behind a part -/
theorem tE.mk {m : Sem1 D} {σ : L2.St} {Q : VK} {T : Tr} {ρ : Env} {S : Store} (s : SOk K T S) (r : REnv K T ρ σ) (p : Post K T (m ρ S) (kV' K Q)) : tE K m σ T.H Q := ⟨T, ρ, S, rfl, s, r, p⟩
theorem tL.mk {m : Sem1 (List D)} {σ : L2.St} {Q : List V → Hp → Prop} {T : Tr} {ρ : Env} {S : Store} (s : SOk K T S) (r : REnv K T ρ σ) (p : Post K T (m ρ S) (kL K Q)) : tL K m σ T.H Q := ⟨T, ρ, S, rfl, s, r, p⟩
theorem tB'.mk {m : Sem1 Bool} {σ : L2.St} {Q : Bool → Hp → Prop} {T : Tr} {ρ : Env} {S : Store} (s : SOk K T S) (r : REnv K T ρ σ) (p : Post K T (m ρ S) (kB Q)) : tB' K m σ T.H Q := ⟨T, ρ, S, rfl, s, r, p⟩
end
section
variable {X : Cx} {a b c : Expr} {ma mb mc : Sem1 D} {pos : Pos}
abbrev OkE (X : Cx) (e : Expr) (m : Sem1 D) : Prop := PE X e (tE X.K m)
abbrev OkT (X : Cx) (e : Expr) (m : Sem1 D) : Prop := PT X e (tB' X.K (truthT m))
abbrev OkL (X : Cx) (es : List Expr) (m : Sem1 (List D)) : Prop := PA X es (tL X.K m)
/-- a truth at hand -/
theorem post_truth {T : Tr} {S : Store} {d : D} {v : V} {Q : Bool → Hp → Prop} (s : SOk X.K T S) (h : Rep X.K T d v) (p : Post X.K T (.opt (truthy S d) S) (kB Q)) : ∃ k, TruV X.K v T.H k ∧ Q k T.H := by
  obtain ⟨k, e, p⟩ := p.opt
  exact ⟨k, ok_truth s h e, p.now s⟩
/-- not and, or, not, if, compare -/
def plainT : Expr → Bool
  | .UnaryOp .Not _ _ => false
  | .BoolOp _ _ _ => false
  | .IfExp _ _ _ _ => false
  | .Compare _ _ _ _ => false
  | _ => true
theorem isTrue_plainT {e : Expr} (h : plainT e = true) (env : PySem.Env) (whole : Sem Value) : PySem.isTrue e env whole = (do let v ← whole; standAt e.pos; holding [v] (PySem.truthy v)) := by
  cases e with
  | UnaryOp op x p => cases op <;> first | rfl | cases h
  | BoolOp => cases h
  | IfExp => cases h
  | Compare => cases h
  | _ => rfl
theorem okT_plain (h : OkE X a ma) (hp : plainT a = true) : OkT X a ma := by
  refine pt_weak (pt_truth h fun w => isTrue_plainT hp _ _) ?_
  rintro σ H Q ⟨T, ρ, S, rfl, s, r, p⟩
  exact .mk s r (p.bind.imp fun d S' T' e s' q v hv => post_truth s' hv q)
/-! ## names, constants -/
theorem okE_loc {i : Nat} {x : Str} (hN : X.N[i]? = some x) (hv : Vis X.env.scope x) (hd : (x == ("__debug__" : Str)) = false) (hc : (x == ("__classdict__" : Str)) = false) : OkE X (.Name x pos) (semE c₀ (.loc i)) := by
  refine pe_weak (pe_var (i := i) hN hv hd hc) ?_
  rintro σ H Q ⟨T, ρ, S, rfl, s, r, p⟩
  simp only [semE] at p
  obtain ⟨d, e, p⟩ := p.opt
  obtain ⟨v, e2, h⟩ := r.2 i d (by rw [List.getD_eq_getElem?_getD] at e; cases q : ρ[i]? with
    | none => rw [q] at e; cases e
    | some z => rw [q] at e; exact congrArg some e)
  exact ⟨v, e2, p.now s v h⟩
def isC : Const → Bool
  | .none | .bool _ | .int _ | .str _ => true
  | _ => false
theorem rep_const {K : Frag} {T : Tr} (k : Const) (h : isC k = true) : ∃ v, Rep K T (constD k) v ∧ (match k with
    | .none => v = .non
    | .bool b => v = .bl b
    | .int i => v = .int i
    | .str x => v = .str x
    | _ => False) := by
  cases k with
  | none => exact ⟨_, Rep.mk_non, rfl⟩
  | bool b => exact ⟨_, Rep.mk_bl, rfl⟩
  | int b => exact ⟨_, Rep.mk_int, rfl⟩
  | str b => exact ⟨_, Rep.mk_str, rfl⟩
  | _ => cases h
theorem okE_cst {k : Const} {j : Nat} (h : isC k = true) : OkE X (.Constant k j pos) (semE c₀ (.cst k)) := by
  have go : ∀ v, PE X (.Constant k j pos) (tC v) → (∀ T, Rep X.K T (constD k) v) → OkE X (.Constant k j pos) (semE c₀ (.cst k)) := fun v p r => by
    refine pe_weak p ?_
    rintro σ H Q ⟨T, ρ, S, rfl, s, _, q⟩
    simp only [semE] at q
    exact q.now s v (r T)
  cases k with
  | none => exact go _ pe_non fun _ => Rep.mk_non
  | bool b => exact go _ pe_bl fun _ => Rep.mk_bl
  | int b => exact go _ pe_int fun _ => Rep.mk_int
  | str b => exact go _ pe_str fun _ => Rep.mk_str
  | _ => cases h
/-- a constant of the module: what it is bound to -/
def CstAt (K : Frag) (mg : Str → Option Value) (x : Str) (k : Const) : Prop := ∃ u v, mg x = some u ∧ L2.RelV v u ∧ ∀ T, Rep K T (constD k) v
theorem okE_glb {k : Const} {x : Str} (hg : Gl X x) (h : CstAt X.K X.mg x k) (hd : (x == ("__debug__" : Str)) = false) : OkE X (.Name x pos) (semE c₀ (.glb x k)) := by
  obtain ⟨u, v, e, rv, h⟩ := h
  refine pe_weak (pe_glob hg e rv hd) ?_
  rintro σ H Q ⟨T, ρ, S, rfl, s, _, q⟩
  simp only [semE] at q
  exact q.now s v (h T)
/-! ## operators -/
theorem okE_bin {m : Bool} {op : BOp} (ha : OkE X a ma) (hb : OkE X b mb) : OkE X (.BinOp a (bop op) b pos) (fun ρ S => (ma ρ S).bind fun x S1 => (mb ρ S1).bind fun y S2 => binD m op x y S2) := by
  obtain ⟨r, hr, ok⟩ := ok_bin (X := X) m op
  refine pe_weak (pe_op hr ha hb) ?_
  rintro σ H Q ⟨T, ρ, S, rfl, s, re, p⟩
  refine .mk s re (p.bind.imp fun d S1 T1 e1 s1 p1 v hv => .mk s1 (re.mono e1) (p1.bind.imp fun d2 S2 T2 e2 s2 p2 v2 hv2 => ?_))
  exact ok T2 S2 v v2 d d2 Q s2 (hv.mono e2) hv2 p2
theorem okE_neg (ha : OkE X a ma) : OkE X (.UnaryOp .USub a pos) (fun ρ S => (ma ρ S).bind fun x S1 => match x with
    | .int i => .ok (.int (-i)) S1
    | _ => .no) := by
  refine pe_weak (pe_un un_neg ha) ?_
  rintro σ H Q ⟨T, ρ, S, rfl, s, re, p⟩
  refine .mk s re (p.bind.imp fun d S1 T1 e1 s1 p1 v hv => ?_)
  split at p1
  · exact ⟨_, hv.int, p1.now s1 _ Rep.mk_int⟩
  · exact p1.elim
theorem okE_cmp {op : COp} (hu : X.A.units + 65 < cLine) (ha : OkE X a ma) (hb : OkE X b mb) (hm : behindInMarks (cop op) b = false) : OkE X (.Compare a [cop op] [b] pos) (fun ρ S => (ma ρ S).bind fun x S1 => (mb ρ S1).bind fun y S2 => .opt ((cmpD S2 op x y).map .bl) S2) := by
  obtain ⟨r, hr, ok⟩ := ok_cmp (X := X) hu op
  refine pe_weak (pe_cmpR hr ha hb hm) ?_
  rintro σ H Q ⟨T, ρ, S, rfl, s, re, p⟩
  refine .mk s re (p.bind.imp fun d S1 T1 e1 s1 p1 v hv => .mk s1 (re.mono e1) (p1.bind.imp fun d2 S2 T2 e2 s2 p2 v2 hv2 => ?_))
  obtain ⟨z, e, p3⟩ := p2.opt
  simp only [Option.map_eq_some_iff] at e
  obtain ⟨k, e, rfl⟩ := e
  exact ok T2 S2 v v2 d d2 k Q s2 (hv.mono e2) hv2 e (p3.now s2 _ Rep.mk_bl)
theorem okT_cmp {op : COp} (hu : X.A.units + 65 < cLine) (ha : OkE X a ma) (hb : OkE X b mb) (hm : behindInMarks (cop op) b = false) : OkT X (.Compare a [cop op] [b] pos) (fun ρ S => (ma ρ S).bind fun x S1 => (mb ρ S1).bind fun y S2 => .opt ((cmpD S2 op x y).map .bl) S2) := by
  obtain ⟨r, hr, ok⟩ := ok_cmp (X := X) hu op
  refine pt_weak (pt_cmpR hr ha hb hm) ?_
  rintro σ H Q ⟨T, ρ, S, rfl, s, re, p⟩
  refine .mk s re (p.bind.bind.imp fun d S1 T1 e1 s1 p1 v hv => .mk s1 (re.mono e1) (p1.bind.imp fun d2 S2 T2 e2 s2 p2 v2 hv2 => ?_))
  obtain ⟨z, e, p3⟩ := p2.opt
  simp only [Option.map_eq_some_iff] at e
  obtain ⟨k, e, rfl⟩ := e
  have p4 := p3.now s2
  exact ok T2 S2 v v2 d d2 k _ s2 (hv.mono e2) hv2 e ⟨k, rfl, by
    obtain ⟨k', e', p5⟩ := Post.opt p4
    cases e'
    exact p5.now s2⟩
theorem okE_chain {o1 o2 : COp} (hu : X.A.units + 65 < cLine) (ha : OkE X a ma) (hb : OkE X b mb) (hc : OkE X c mc) (hm : lastMarks [cop o1, cop o2] [b, c] = false) : OkE X (.Compare a [cop o1, cop o2] [b, c] pos) (fun ρ S => (ma ρ S).bind fun x S1 => (mb ρ S1).bind fun y S2 => match cmpD S2 o1 x y with
    | some true => (mc ρ S2).bind fun z S3 => .opt ((cmpD S3 o2 y z).map .bl) S3
    | some false => .ok (.bl false) S2
    | none => .no) := by
  obtain ⟨r1, hr1, ok1⟩ := ok_cmp (X := X) hu o1
  obtain ⟨r2, hr2, ok2⟩ := ok_cmp (X := X) hu o2
  refine pe_weak (pe_chain hr1 hr2 ha hb hc hm) ?_
  rintro σ H Q ⟨T, ρ, S, rfl, s, re, p⟩
  refine .mk s re (p.bind.imp fun d S1 T1 e1 s1 p1 v hv => .mk s1 (re.mono e1) (p1.bind.imp fun d2 S2 T2 e2 s2 p2 v2 hv2 => ?_))
  split at p2
  · rename_i e
    refine ok1 T2 S2 v v2 d d2 true _ s2 (hv.mono e2) hv2 e ⟨true, rfl, ?_⟩
    rw [if_pos rfl]
    refine .mk s2 ((re.mono e1).mono e2) (p2.bind.imp fun d3 S3 T3 e3 s3 p3 v3 hv3 => ?_)
    obtain ⟨z, e4, p4⟩ := p3.opt
    simp only [Option.map_eq_some_iff] at e4
    obtain ⟨k, e4, rfl⟩ := e4
    exact ok2 T3 S3 v2 v3 d2 d3 k Q s3 (hv2.mono e3) hv3 e4 (p4.now s3 _ Rep.mk_bl)
  · rename_i e
    refine ok1 T2 S2 v v2 d d2 false _ s2 (hv.mono e2) hv2 e ⟨false, rfl, ?_⟩
    rw [if_neg Bool.false_ne_true]
    exact p2.now s2 _ Rep.mk_bl
  · exact p2.elim
theorem okE_not (ha : OkE X a ma) : OkE X (.UnaryOp .Not a pos) (fun ρ S => (ma ρ S).bind fun x S1 => .opt ((truthy S1 x).map fun k => .bl (!k)) S1) := by
  refine pe_weak (pe_notT ha) ?_
  rintro σ H Q ⟨T, ρ, S, rfl, s, re, p⟩
  refine .mk s re (p.bind.imp fun d S1 T1 e1 s1 p1 v hv => ?_)
  obtain ⟨z, e, p2⟩ := p1.opt
  simp only [Option.map_eq_some_iff] at e
  obtain ⟨k, e, rfl⟩ := e
  exact ⟨k, ok_truth s1 hv e, p2.now s1 _ Rep.mk_bl⟩
theorem truthT_not (ρ : Env) (S : Store) : truthT (fun ρ S => (ma ρ S).bind fun x S1 => .opt ((truthy S1 x).map fun k => .bl (!k)) S1) ρ S = (truthT ma ρ S).bind fun k S1 => .ok (!k) S1 := by
  show ((ma ρ S).bind _).bind _ = ((ma ρ S).bind _).bind _
  cases ma ρ S with
  | ok d S1 =>
    simp only [R.bind_ok]
    cases truthy S1 d <;> simp [truthy]
  | ex _ _ _ => rfl
  | no => rfl
theorem truthT_and (ρ : Env) (S : Store) : truthT (fun ρ S => (ma ρ S).bind fun x S1 => match truthy S1 x with
    | some true => mb ρ S1
    | some false => .ok x S1
    | none => .no) ρ S = (truthT ma ρ S).bind fun k S1 => if k = true then truthT mb ρ S1 else .ok false S1 := by
  show ((ma ρ S).bind _).bind _ = ((ma ρ S).bind _).bind _
  cases ma ρ S with
  | ok d S1 =>
    simp only [R.bind_ok]
    cases h : truthy S1 d with
    | none => simp
    | some k => cases k <;> simp [h, truthT]
  | ex _ _ _ => rfl
  | no => rfl
theorem truthT_or (ρ : Env) (S : Store) : truthT (fun ρ S => (ma ρ S).bind fun x S1 => match truthy S1 x with
    | some true => .ok x S1
    | some false => mb ρ S1
    | none => .no) ρ S = (truthT ma ρ S).bind fun k S1 => if k = true then .ok true S1 else truthT mb ρ S1 := by
  show ((ma ρ S).bind _).bind _ = ((ma ρ S).bind _).bind _
  cases ma ρ S with
  | ok d S1 =>
    simp only [R.bind_ok]
    cases h : truthy S1 d with
    | none => simp
    | some k => cases k <;> simp [h, truthT]
  | ex _ _ _ => rfl
  | no => rfl
theorem truthT_ite (ρ : Env) (S : Store) : truthT (fun ρ S => (mc ρ S).bind fun x S1 => match truthy S1 x with
    | some true => ma ρ S1
    | some false => mb ρ S1
    | none => .no) ρ S = (truthT mc ρ S).bind fun k S1 => if k = true then truthT ma ρ S1 else truthT mb ρ S1 := by
  show ((mc ρ S).bind _).bind _ = ((mc ρ S).bind _).bind _
  cases mc ρ S with
  | ok d S1 =>
    simp only [R.bind_ok]
    cases h : truthy S1 d with
    | none => simp
    | some k => cases k <;> simp [h, truthT]
  | ex _ _ _ => rfl
  | no => rfl
theorem truthT_iteV (ρ : Env) (S : Store) : ((mc ρ S).bind fun x S1 => match truthy S1 x with
    | some true => ma ρ S1
    | some false => mb ρ S1
    | none => .no) = (truthT mc ρ S).bind fun k S1 => if k = true then ma ρ S1 else mb ρ S1 := by
  show (mc ρ S).bind _ = ((mc ρ S).bind _).bind _
  cases mc ρ S with
  | ok d S1 =>
    simp only [R.bind_ok]
    cases h : truthy S1 d with
    | none => simp
    | some k => cases k <;> simp
  | ex _ _ _ => rfl
  | no => rfl
theorem okT_not (ha : OkT X a ma) : OkT X (.UnaryOp .Not a pos) (fun ρ S => (ma ρ S).bind fun x S1 => .opt ((truthy S1 x).map fun k => .bl (!k)) S1) := by
  refine pt_weak (pt_not ha) ?_
  rintro σ H Q ⟨T, ρ, S, rfl, s, re, p⟩
  rw [truthT_not] at p
  exact .mk s re (p.bind.imp fun k S1 T1 e1 s1 p1 => p1.now s1)
theorem okE_and {rest : List Expr} (ha : OkE X a ma) (hb : OkE X (.BoolOp .And (b :: rest) pos) mb) : OkE X (.BoolOp .And (a :: b :: rest) pos) (fun ρ S => (ma ρ S).bind fun x S1 => match truthy S1 x with
    | some true => mb ρ S1
    | some false => .ok x S1
    | none => .no) := by
  refine pe_weak (pe_andT ha hb) ?_
  rintro σ H Q ⟨T, ρ, S, rfl, s, re, p⟩
  refine .mk s re (p.bind.imp fun d S1 T1 e1 s1 p1 v hv => ?_)
  split at p1
  · rename_i e
    exact ⟨true, ok_truth s1 hv e, by rw [if_pos rfl]; exact .mk s1 (re.mono e1) p1⟩
  · rename_i e
    exact ⟨false, ok_truth s1 hv e, by rw [if_neg Bool.false_ne_true]; exact p1.now s1 v hv⟩
  · exact p1.elim
theorem okE_or {rest : List Expr} (ha : OkE X a ma) (hb : OkE X (.BoolOp .Or (b :: rest) pos) mb) : OkE X (.BoolOp .Or (a :: b :: rest) pos) (fun ρ S => (ma ρ S).bind fun x S1 => match truthy S1 x with
    | some true => .ok x S1
    | some false => mb ρ S1
    | none => .no) := by
  refine pe_weak (pe_orT ha hb) ?_
  rintro σ H Q ⟨T, ρ, S, rfl, s, re, p⟩
  refine .mk s re (p.bind.imp fun d S1 T1 e1 s1 p1 v hv => ?_)
  split at p1
  · rename_i e
    exact ⟨true, ok_truth s1 hv e, by rw [if_pos rfl]; exact p1.now s1 v hv⟩
  · rename_i e
    exact ⟨false, ok_truth s1 hv e, by rw [if_neg Bool.false_ne_true]; exact .mk s1 (re.mono e1) p1⟩
  · exact p1.elim
/-- and, or as tests: whatever the whole is -/
abbrev OkW (X : Cx) (e : Expr) (m : Sem1 D) : Prop := PW X e (tB' X.K (truthT m))
theorem okW_and1 (ha : OkT X a ma) : OkW X (.BoolOp .And [a] pos) ma := pw_and1 ha
theorem okW_or1 (ha : OkT X a ma) : OkW X (.BoolOp .Or [a] pos) ma := pw_or1 ha
theorem okW_and {rest : List Expr} (ha : OkT X a ma) (hb : OkW X (.BoolOp .And (b :: rest) pos) mb) : OkW X (.BoolOp .And (a :: b :: rest) pos) (fun ρ S => (ma ρ S).bind fun x S1 => match truthy S1 x with
    | some true => mb ρ S1
    | some false => .ok x S1
    | none => .no) := by
  refine pw_weak (pw_and ha hb) ?_
  rintro σ H Q ⟨T, ρ, S, rfl, s, re, p⟩
  rw [truthT_and] at p
  refine .mk s re (p.bind.imp fun k S1 T1 e1 s1 p1 => ?_)
  cases k with
  | true => rw [if_pos rfl] at p1; refine iteT ?_; exact .mk s1 (re.mono e1) p1
  | false => rw [if_neg Bool.false_ne_true] at p1; refine iteF ?_; exact p1.now s1
theorem okW_or {rest : List Expr} (ha : OkT X a ma) (hb : OkW X (.BoolOp .Or (b :: rest) pos) mb) : OkW X (.BoolOp .Or (a :: b :: rest) pos) (fun ρ S => (ma ρ S).bind fun x S1 => match truthy S1 x with
    | some true => .ok x S1
    | some false => mb ρ S1
    | none => .no) := by
  refine pw_weak (pw_or ha hb) ?_
  rintro σ H Q ⟨T, ρ, S, rfl, s, re, p⟩
  rw [truthT_or] at p
  refine .mk s re (p.bind.imp fun k S1 T1 e1 s1 p1 => ?_)
  cases k with
  | true => rw [if_pos rfl] at p1; refine iteT ?_; exact p1.now s1
  | false => rw [if_neg Bool.false_ne_true] at p1; refine iteF ?_; exact .mk s1 (re.mono e1) p1
theorem okE_ite (hc : OkT X c mc) (ha : OkE X a ma) (hb : OkE X b mb) : OkE X (.IfExp c a b pos) (fun ρ S => (mc ρ S).bind fun x S1 => match truthy S1 x with
    | some true => ma ρ S1
    | some false => mb ρ S1
    | none => .no) := by
  refine pe_weak (pe_ifExp hc ha hb) ?_
  rintro σ H Q ⟨T, ρ, S, rfl, s, re, p⟩
  simp only [truthT_iteV] at p
  refine .mk s re (p.bind.imp fun k S1 T1 e1 s1 p1 => ?_)
  cases k with
  | true => rw [if_pos rfl] at p1; refine iteT ?_; exact .mk s1 (re.mono e1) p1
  | false => rw [if_neg Bool.false_ne_true] at p1; refine iteF ?_; exact .mk s1 (re.mono e1) p1
end
end LH

namespace LH
open PySem PySem.W L2 PySem.Spec PyProof.Rows
/-! ## sum(lists, []) -/
theorem args_sum2 (a b : Value) : argsOk "sum" ⟨[a, b], []⟩ := by unfold argsOk; kernel_rfl
theorem sub_list_str : isSubtype (.type "list") (.type "str") = pure false := by rw [isSubtype_type]; kernel_rfl
theorem sub_list_bytes : isSubtype (.type "list") (.type "bytes") = pure false := by rw [isSubtype_type]; kernel_rfl
theorem sub_list_bytearray : isSubtype (.type "list") (.type "bytearray") = pure false := by rw [isSubtype_type]; kernel_rfl
def Grows (H H' : Hp) : Prop := ∀ c o, H c = some o → H' c = some o
theorem Grows.trans {H H1 H2 : Hp} (a : Grows H H1) (b : Grows H1 H2) : Grows H H2 := fun c o h => b c o (a c o h)
theorem Grows.upd {H : Hp} {p : Addr} {o : HO} (h : H p = none) : Grows H (L2.upd H p o) := fun c u e => by
  rw [upd_ne (fun z => by rw [z, h] at e; cases e)]; exact e
/-- what is left to be joined -/
inductive Lists (H : Hp) : List Addr → List (List V) → Prop where
  | nil : Lists H [] []
  | cons {a : Addr} {as : List Addr} {xs : List V} {xss : List (List V)} : H a = some (.lst xs) → Lists H as xss → Lists H (a :: as) (xs :: xss)
theorem Lists.mono {H H' : Hp} (g : Grows H H') {as : List Addr} {xss : List (List V)} (h : Lists H as xss) : Lists H' as xss := by
  induction h with
  | nil => exact .nil
  | cons e _ ih => exact .cons (g _ _ e) ih
theorem Lists.get {H : Hp} {as : List Addr} {xss : List (List V)} (h : Lists H as xss) : ∀ {i : Nat} {a : Addr}, as[i]? = some a → ∃ xs, xss[i]? = some xs ∧ H a = some (.lst xs) := by
  induction h with
  | nil => intro i a e; simp at e
  | cons e _ ih =>
    intro i a e2
    cases i with
    | zero => simp at e2; subst e2; exact ⟨_, by simp, e⟩
    | succ i => simpa using ih (by simpa using e2)
theorem Lists.length {H : Hp} {as : List Addr} {xss : List (List V)} (h : Lists H as xss) : as.length = xss.length := by
  induction h with
  | nil => rfl
  | cons _ _ ih => simp [ih]
section
variable {X : Cx} {A : Around} {R : Result → Shared → Prop}
theorem vals_refs : ∀ {as : List Addr} {its : List Value}, Vals (as.map V.ref) its → its = as.map Value.ref
  | [], _, h => by cases h; rfl
  | a :: as, _, h => by
    cases h with
    | cons h1 h2 =>
      cases h1
      rw [vals_refs h2]; rfl
theorem codeAny_sumL {pins : List (Addr × Obj)} {σ : L2.St} {a it st : Addr} {as : List Addr} {xss : List (List V)} {Q : VK} {b0 : Addr} (hh : A.handled = none) (hne : a ≠ it) (hst : st ≠ it) (hsa : st ≠ a)
    (hR : ∀ v s', EP X pins σ Q v s' → R (.ok (.ret v)) s') :
    ∀ (k i : Nat) (s : Shared) (H : Hp) (p : Addr) (acc : List V) (c : Nat), as.length - i = k → i ≤ as.length → Inv X pins σ H s → s.heap.IsListIter it a i → SqL X.K H a (as.map V.ref) → Lists H as xss →
      s.heap.get? st = some { cls := .type "list", dict := none, data := .seq #[.ref p] c, slots := #[] } → H it = none → H st = none → it ≠ X.env.locals → st ≠ X.env.locals →
      (it ∈ X.ex ∨ X.s_0.heap.objs.size ≤ it) → (st ∈ X.ex ∨ X.s_0.heap.objs.size ≤ st) → (∀ x c, X.env.cells.lookup x = some c → c ≠ it) → (∀ x c, X.env.cells.lookup x = some c → c ≠ st) → (∀ p ∈ X.pn ++ pins, p.1 ≠ it) → (∀ p ∈ X.pn ++ pins, p.1 ≠ st) →
      H p = some (.lst acc) → acc.length + (xss.drop i).flatten.length ≤ sizeLine →
      (∀ H' p', Grows H H' → H' p' = some (.lst (acc ++ (xss.drop i).flatten)) → (i < as.length → H p' = none) → (i = as.length → p' = p ∧ H' = H) → Q (.ref p') H') →
      codeAny (model X.prog X.w) A (.builtin "sum.loop" ⟨[.ref it, .ref st, rawInt 2, rawInt 0], []⟩) R s := by
  intro k
  induction k with
  | zero =>
    intro i s H p acc c hk hi I hit hs hl hS n1 n2 l1 l2 x1 x2 c1 c2 q1 q2 hp hz hQ
    have hin : i = as.length := by omega
    subst hin
    obtain ⟨its, rv, hl', _⟩ := I.list hs
    have hits := vals_refs rv
    subst hits
    refine codeAny_builtin F.entry_sum_loop ?_
    rw [Around.under_plainId F.plain_sum_loop _]
    show wpAny _ A.in1 (seqItems? (.ref st) >>= _) _ _ s
    refine wpAny_bind (wpAny_seqItems hS rfl ?_)
    show wpAny _ A.in1 (tryCatch (pyNext (.ref it)) _ >>= _) _ _ s
    refine wpAny_bind (wpAny_tryCatch (wpAny_pyNext_list_end hh hit hl'.isList (by simp) fun h' he' => ?_))
    refine wpAny_pure (hR _ _ ⟨.ref p, H, I.turned (t' := s.toks) (fun b o hb e => he' b o hb e) n1 l1 x1 c1 q1, rfl, ?_⟩)
    refine hQ H p (fun _ _ h => h) ?_ (fun h => absurd h (Nat.lt_irrefl _)) fun _ => ⟨rfl, rfl⟩
    rw [hl.length, List.drop_length]
    simpa using hp
  | succ k ih =>
    intro i s H p acc c hk hi I hit hs hl hS n1 n2 l1 l2 x1 x2 c1 c2 q1 q2 hp hz hQ
    have hlt : i < as.length := by omega
    obtain ⟨its, rv, hl', _⟩ := I.list hs
    have hits := vals_refs rv
    subst hits
    obtain ⟨b, hb⟩ : ∃ b, as[i]? = some b := ⟨_, List.getElem?_eq_getElem hlt⟩
    obtain ⟨xs, hxs, hbx⟩ := hl.get hb
    have hdrop : xss.drop i = xs :: xss.drop (i + 1) := by
      have hlt' : i < xss.length := by rw [← hl.length]; exact hlt
      rw [List.drop_eq_getElem_cons hlt']
      rw [List.getElem?_eq_getElem hlt'] at hxs
      cases hxs; rfl
    rw [hdrop, List.flatten_cons, List.length_append] at hz
    refine codeAny_builtin F.entry_sum_loop ?_
    rw [Around.under_plainId F.plain_sum_loop _]
    show wpAny _ A.in1 (seqItems? (.ref st) >>= _) _ _ s
    refine wpAny_bind (wpAny_seqItems hS rfl ?_)
    show wpAny _ A.in1 (tryCatch (pyNext (.ref it)) _ >>= _) _ _ s
    refine wpAny_bind (wpAny_tryCatch (wpAny_pyNext_list_item hit hl'.isList (x := .ref b) (by simp [hb]) fun h' hit' hs' => ?_))
    have I1 : Inv X pins σ H { s with heap := h' } := I.turned (t' := s.toks) (fun b o hb e => hs'.extBut b o hb e) n1 l1 x1 c1 q1
    have hS1 := hs'.extBut st _ hst hS
    obtain ⟨zz, itsA, nA, rA, hlA, eA⟩ := I1.lstM hp
    obtain ⟨zz2, itsB, nB, rB, hlB, eB⟩ := I1.lstM hbx
    show wpAny _ A.in1 ((holding [Value.ref b] (binaryOp .Add (.ref p) (.ref b))).attempt >>= _) _ _ _
    refine wpAny_bind (wpAny_attempt (wpAny_holding (PySem.P.add_list eA eB ?_ (by rw [List.size_toArray, List.size_toArray]; omega))))
    have ea : itsA.toArray ++ itsB.toArray = (itsA ++ itsB).toArray := by simp
    rw [ea]
    have I2 := I1.lnew (t' := s.toks) (rA.append rB) (by rw [List.length_append]; omega)
    have hfr := I1.fresh
    have hfr : H h'.objs.size = none := hfr
    have I2 : Inv X pins σ (L2.upd H h'.objs.size (.lst (acc ++ xs))) { s with heap := h'.push { cls := .type "list", data := .seq (itsA ++ itsB).toArray } } := I2
    generalize hp2 : h'.objs.size = p2 at I2 hfr ⊢
    have hnit : it ≠ p2 := by
      obtain ⟨o, e, _⟩ := hit'
      exact Nat.ne_of_lt (hp2 ▸ Heap.lt_size e)
    have hnst : st ≠ p2 := by
      exact Nat.ne_of_lt (hp2 ▸ Heap.lt_size hS1)
    have hS2 : (h'.push { cls := .type "list", data := .seq (itsA ++ itsB).toArray }).get? st = _ := Heap.get?_push_of_some _ hS1
    show wpAny _ A.in1 (updateSeq st (fun _ => #[.ref p2]) >>= _) _ _ _
    refine wpAny_bind ?_
    refine wpAny_updateSeq hS2 rfl ?_
    have hS3 := Heap.get?_update_self (Obj.mapSeq fun _ => #[Value.ref p2]) hS2 rfl
    refine wpAny_bind (wpAny_letGo ?_)
    refine wpAny_bind ?_
    refine wpAny_updateSeq hS3 rfl ?_
    have hS4 := Heap.get?_update_self (Obj.mapSeq fun _ => #[Value.ref p2]) hS3 rfl
    have g2 : Grows H (L2.upd H p2 (.lst (acc ++ xs))) := Grows.upd hfr
    have m1 : L2.upd H p2 (.lst (acc ++ xs)) it = none := by rw [upd_ne hnit]; exact n1
    have m2 : L2.upd H p2 (.lst (acc ++ xs)) st = none := by rw [upd_ne hnst]; exact n2
    have I3 := I2.turned (it := st) (h' := ((h'.push { cls := .type "list", data := .seq (itsA ++ itsB).toArray }).update st (Obj.mapSeq fun _ => #[Value.ref p2])).update st (Obj.mapSeq fun _ => #[Value.ref p2])) (t' := s.toks)
      (fun b o hb e => (Heap.get?_update_other _ _ (Ne.symm hb)).trans ((Heap.get?_update_other _ _ (Ne.symm hb)).trans e)) m2 l2 x2 c2 q2
    refine wpAny_pure ⟨plainId_quiet F.plain_sum_loop _, ih (i + 1) _ _ p2 (acc ++ xs) _ (by omega) hlt I3 (hit'.at fun o e => ?_) ?_ (hl.mono g2) hS4 m1 m2 l1 l2 x1 x2 c1 c2 q1 q2 upd_same (by rw [List.length_append]; omega) fun H' p' g e hn he => hQ H' p' (g2.trans g) ?_ (fun _ => ?_) fun h => absurd h (by omega)⟩
    · exact (Heap.get?_update_other _ _ hst).trans ((Heap.get?_update_other _ _ hst).trans (Heap.get?_push_of_some _ e))
    · rcases hs with (h | ⟨o, h⟩) | h
      · exact .inl (.inl (g2 _ _ h))
      · exact .inl (.inr ⟨o, g2 _ _ h⟩)
      · exact .inr h
    · rw [hdrop, List.flatten_cons, ← List.append_assoc]; exact e
    · by_cases hlast : i + 1 = as.length
      · rw [(he hlast).1]; exact hfr
      · have := hn (by omega)
        cases hq : H p' with
        | none => rfl
        | some o => rw [g2 _ _ hq] at this; cases this
/-- sum(lists, start) -/
def rSumL (K : Frag) : List V → Hp → VK → Prop := fun vs H Q => ∃ a b as xss zs, vs = [.ref a, .ref b] ∧ SqL K H a (as.map V.ref) ∧ H b = some (.lst zs) ∧ Lists H as xss ∧ zs.length + xss.flatten.length ≤ sizeLine ∧
  ∀ H' p, Grows H H' → H' p = some (.lst (zs ++ xss.flatten)) → (as ≠ [] → H p = none) → (as = [] → p = b ∧ H' = H) → Q (.ref p) H'
theorem cr_sumL (hc : X.calm = true) : CallR X (.builtin "sum") (rSumL X.K) := by
  intro pins s σ H vs us Q I r h
  obtain ⟨a, b, as, xss, zs, rfl, hs, hb, hl, hz, q⟩ := h
  obtain ⟨va, vb, rfl, ra, rb⟩ := vals2 r
  cases ra
  cases rb
  refine call_function_tree F.kind_sum F.plain_sum F.entry_sum (args_sum2 _ _) ?_
  unfold Builtin.«sum»
  simp only [List.length_cons, List.length_nil]
  rw [if_neg (by decide)]
  refine wpAny_bind (wpAny_of_eq (show Builtin.Builtins.bindParams "sum" ["start"] 0 ⟨[.ref b], []⟩ = pure [some (.ref b)] from rfl) ?_)
  obtain ⟨its, rv, hl', _⟩ := I.list hs
  have hits := vals_refs rv
  subst hits
  refine wpAny_bind (wpAny_pyIter_list hl'.isList ?_)
  have I1 : Inv X pins σ H { s with heap := s.heap.push { cls := .type "list_iterator", data := .fields #[.ref a, .int 0 0] } } := I.kept (t' := s.toks) fun b o e => Heap.get?_push_of_some _ e
  have hb1 := I1.lstM hb
  obtain ⟨_, itsB, nB, _, _, eB⟩ := hb1
  have tB : Shared.TypeIs { s with heap := s.heap.push { cls := .type "list_iterator", data := .fields #[.ref a, .int 0 0] } } (.ref b) "list" := ⟨_, eB, rfl⟩
  refine wpAny_bind (wpAny_pure ?_)
  simp only [List.forIn_cons, List.forIn_nil]
  refine wpAny_bind (wpAny_bind (wpAny_bind (wpAny_isInstance (T := "list") (b := false) tB sub_list_str ?_)))
  simp only [Bool.false_eq_true, if_false]
  refine wpAny_pure (wpAny_bind (wpAny_bind (wpAny_isInstance (T := "list") (b := false) tB sub_list_bytes ?_)))
  simp only [Bool.false_eq_true, if_false]
  refine wpAny_pure (wpAny_bind (wpAny_bind (wpAny_isInstance (T := "list") (b := false) tB sub_list_bytearray ?_)))
  simp only [Bool.false_eq_true, if_false]
  refine wpAny_pure (wpAny_pure ?_)
  refine wpAny_bind (wpAny_newObj_type ?_)
  have n1 : H s.heap.objs.size = none := I.fresh
  have n2 : H (s.heap.objs.size + 1) = none := I.hok.fresh (Nat.le_succ _)
  obtain ⟨_, f1, _, f2, f3, f4⟩ := I.fpOk (Nat.le_refl _) n1
  obtain ⟨_, g1, _, g2, g3, g4⟩ := I.fpOk (Nat.le_succ _) n2
  have ha : a < s.heap.objs.size := by
    obtain ⟨o, e, _⟩ := hl'.isList
    exact Heap.lt_size e
  have hsz : (s.heap.push { cls := .type "list_iterator", data := .fields #[.ref a, .int 0 0] }).objs.size = s.heap.objs.size + 1 := by simp [Heap.push]
  have hS : ((s.heap.push { cls := .type "list_iterator", data := .fields #[.ref a, .int 0 0] }).push { cls := .type "list", data := .seq #[.ref b] }).get? (s.heap.objs.size + 1) = some { cls := .type "list", data := .seq #[.ref b] } := by
    have := Heap.get?_push_size (s.heap.push { cls := .type "list_iterator", data := .fields #[.ref a, .int 0 0] }) (o := { cls := .type "list", data := .seq #[.ref b] }) rfl
    rw [hsz] at this
    exact this
  have I2 : Inv X pins σ H { s with heap := (s.heap.push { cls := .type "list_iterator", data := .fields #[.ref a, .int 0 0] }).push { cls := .type "list", data := .seq #[.ref b] } } := I1.kept (t' := s.toks) fun b o e => Heap.get?_push_of_some _ e
  refine wpAny_pure ⟨plainId_quiet F.plain_sum_loop _, ?_⟩
  show codeAny (model X.prog X.w) X.A (.builtin "sum.loop" ⟨[.ref s.heap.objs.size, .ref (s.heap.push { cls := .type "list_iterator", data := .fields #[.ref a, .int 0 0] }).objs.size, rawInt 2, rawInt 0], []⟩) _ _
  rw [hsz]
  refine codeAny_sumL (a := a) (it := s.heap.objs.size) (st := s.heap.objs.size + 1) (as := as) (xss := xss) (Q := Q) (pins := pins) (σ := σ) (b0 := b) (I.ok.hd hc) (Nat.ne_of_lt ha) (Nat.succ_ne_self _) (Nat.ne_of_gt (Nat.lt_succ_of_lt ha)) (fun v s' h => h) (as.length - 0) 0 _ H b zs 0 rfl (Nat.zero_le _) I2 ?_ hs hl ?_ n1 n2 f1 g1 f2 g2 f3 g3 f4 g4 hb (by simpa using hz) fun H' p' g e hn he => q H' p' g (by simpa using e) (fun h => hn (by cases as with | nil => exact absurd rfl h | cons _ _ => simp)) fun h => he (by rw [h]; rfl)
  · exact ⟨_, Heap.get?_push_of_some _ (Heap.get?_push_size _ rfl), rfl, rfl⟩
  · exact hS
end
/-! the heap grows by things that nobody names -/
section
variable {K : Frag} {T : Tr} {S : Store} {H' : Hp}
theorem ext_grow (s : SOk K T S) (g : Grows T.H H') : Ext T { T with H := H' } where
  fr := fun _ h => h
  hp := fun a u _ r => .inl (g a u r)
  pr := fun a p => ⟨p, by
    show H' a = T.H a
    cases h : T.H a with
    | none => exact absurd h (s.prn a p)
    | some o => exact g a o h, fun z => z⟩
  mu := fun _ _ => rfl
  N := Nat.le_refl _
theorem grow_eq (g : Grows T.H H') {a : Addr} (h : T.H a ≠ none) : H' a = T.H a := by
  cases e : T.H a with
  | none => exact absurd e h
  | some o => exact g a o e
theorem sok_grow (s : SOk K T S) (g : Grows T.H H') : SOk K { T with H := H' } S where
  len := s.len
  ob := fun n o h => (s.ob n o h).mono (ext_grow s g) (fun l => grow_eq g ((s.ob n o h).some l)) (fun _ z => z) fun _ => Iff.rfl
  inj := s.inj
  frn := fun a h => by show H' a ≠ none; rw [grow_eq g (s.frn a h)]; exact s.frn a h
  prn := fun a h => by show H' a ≠ none; rw [grow_eq g (s.prn a h)]; exact s.prn a h
  prk := fun a u h e => s.prk a u h ((grow_eq g (s.prn a h)).symm.trans e)
  dis := s.dis
/-- a new list among other new things -/
theorem mkL_grow {Q : VK} {m : Bool} {xs : List D} {vs : List V} {p : Addr} (s : SOk K T S) (r : RepL K T xs vs) (h : Post K T (mkL m xs S) (kV' K Q)) (g : Grows T.H H') (hp : T.H p = none) (e : H' p = some (.lst vs)) : Q (.ref p) H' := by
  have g2 : Grows T.H (fun c => if c = p then none else H' c) := fun c o z => by
    have ne : c ≠ p := fun q => by rw [q, hp] at z; cases z
    show (if c = p then none else H' c) = some o
    rw [if_neg ne]; exact g c o z
  have q := mkL_ok (p := p) (sok_grow s g2) (r.mono (ext_grow s g2)) (h.mono (ext_grow s g2)) (if_pos rfl)
  have e2 : upd (fun c => if c = p then none else H' c) p (.lst vs) = H' := by
    funext c
    by_cases hc : c = p
    · rw [hc, upd_same, e]
    · rw [upd_ne hc]; exact if_neg hc
  rw [← e2]; exact q
theorem listsD_rep (s : SOk K T S) : ∀ {ds : List D} {vs : List V} {yss : List (List D)}, RepL K T ds vs → listsD S ds = some yss → ∃ as xss, vs = as.map V.ref ∧ Lists T.H as xss ∧ RepL K T yss.flatten xss.flatten ∧ as.length = yss.length
  | [], vs, yss, r, e => by
    simp only [listsD, Option.some.injEq] at e; subst e
    exact ⟨[], [], r.nil_inv, .nil, .nil, rfl⟩
  | d :: ds, vs, yss, r, e => by
    simp only [listsD, Option.bind_eq_some_iff, Option.map_eq_some_iff] at e
    obtain ⟨xs, e1, zss, e2, rfl⟩ := e
    obtain ⟨v, r', rfl, h1, h2⟩ := r.cons_inv
    obtain ⟨a, us, rfl, e3, h3⟩ := lstD_rep s h1 e1
    obtain ⟨as, xss, rfl, h4, h5, h6⟩ := listsD_rep s h2 e2
    exact ⟨a :: as, us :: xss, rfl, .cons e3 h4, by rw [List.flatten_cons, List.flatten_cons]; exact h3.append h5, by simp [h6]⟩
end
end LH

namespace LH
open PySem PySem.W L2 PySem.Spec PyProof.Rows
/-! ## sorted, of what reads as data -/
def rSrt (K : Frag) : List V → Hp → VK → Prop := fun vs H Q => ∃ (a : Addr) (xs : List V) (ds : List PyData), vs = [.ref a] ∧ SqL K H a xs ∧ DpAll K H xs ds ∧ PySem.W.AllAlike ds ∧ PySem.W.Sortable ds ∧ (∀ d ∈ ds, d.depth ≤ 60) ∧
  ∀ p, H p = none → Q (.ref p) (upd H p (.lst (((xs.zip ds).mergeSort (PySem.W.dataLe false (·.2))).map (·.1))))
theorem dpAll_len {K : Frag} {H : Hp} : ∀ {xs : List V} {ds : List PyData}, DpAll K H xs ds → xs.length = ds.length
  | _, _, .nil => rfl
  | _, _, .cons _ h => by simp [dpAll_len h]
section
variable {X : Cx}
theorem eachIs_of {pins : List (Addr × Obj)} {σ : L2.St} {H : Hp} {s : Shared} (I : L2.Inv X pins σ H s) : ∀ {xs : List V} {its : List Value} {ds : List PyData}, Vals xs its → DpAll X.K H xs ds → PySem.W.EachIs (fun u (b : V × PyData) => RelV b.1 u ∧ ∃ as, Reads s.heap u b.2 as) its (xs.zip ds)
  | [], _, _, rv, hd => by
    cases rv
    cases hd
    exact .nil
  | x :: xs, _, _, rv, hd => by
    cases rv with
    | cons r1 r2 =>
      cases hd with
      | cons d1 d2 => exact .cons ⟨r1, L2.Dp.reads I _ _ _ d1 r1⟩ (eachIs_of I r2 d2)
theorem vals_each {P : Value → V × PyData → Prop} (hP : ∀ u b, P u b → RelV b.1 u) : ∀ {out : List Value} {bs : List (V × PyData)}, PySem.W.EachIs P out bs → Vals (bs.map (·.1)) out
  | _, _, .nil => .nil
  | _, _, .cons h r => .cons (hP _ _ h) (vals_each hP r)
theorem cr_srt (hu : X.A.units + 65 < cLine) : CallR X (.builtin "sorted") (rSrt X.K) := by
  intro pins s σ H vs us Q I r h
  obtain ⟨a, xs, ds, rfl, hs, hd, ha, ht, hdp, q⟩ := h
  obtain ⟨its, rv, hl, hz⟩ := I.list hs
  obtain ⟨u, rfl, ru⟩ := vals1 r
  obtain rfl : u = Value.ref a := ru
  have el := dpAll_len hd
  have e2 : (xs.zip ds).map (·.2) = ds := List.map_snd_zip (Nat.le_of_eq el.symm)
  have e := eachIs_of I rv hd
  refine PySem.W.sorted_data (bs := xs.zip ds) (enc := (·.2)) (R := fun u b => RelV b.1 u ∧ ∃ as, Reads s.heap u b.2 as) hl.isList e (e.mono fun _ _ z => z.2) (by rw [e2]; exact ha) (by rw [e2]; exact ht) (by rw [List.length_zip, ← el, Nat.min_self]; exact hz) (fun b hb => ?_) fun out ho he => ?_
  · have := hdp b.2 (by rw [← e2]; exact List.mem_map_of_mem hb)
    omega
  · have v2 := vals_each (fun u b z => z.1) he
    have hk : ∀ b o, s.heap.get? b = some o → (PyProof.Rows.sortedAll s.heap its (List.toArray out)).get? b = some o := fun b o e => PyProof.Rows.sortedAll_old e
    have hlen : ((xs.zip ds).mergeSort (PySem.W.dataLe false (·.2))).length = xs.length := by
      rw [(List.mergeSort_perm _ _).length_eq, List.length_zip, ← el, Nat.min_self]
    have hz2 : xs.length ≤ sizeLine := hz
    obtain ⟨n, hn⟩ := PyProof.Rows.sortedAll_at s.heap its (List.toArray out)
    refine ⟨.ref (s.heap.objs.size + 1), upd H (s.heap.objs.size + 1) (.lst (((xs.zip ds).mergeSort (PySem.W.dataLe false (·.2))).map (·.1))), I.laid (t' := s.toks) hk (Nat.le_succ _) ⟨?_, out, n, v2, hn⟩, rfl, q _ (I.hok.fresh (Nat.le_succ _))⟩
    rw [List.length_map, hlen]; exact hz2
end
/-- what the sort's answer stands for -/
theorem srt_rep {K : Frag} {T : Tr} {xs : List D} {vs : List V} (r : RepL K T xs vs) : RepL K T (xs.mergeSort leD) (((vs.zip (xs.map D.py)).mergeSort (PySem.W.dataLe false (·.2))).map (·.1)) := by
  have el := r.length
  let L : List (D × V) := xs.zip vs
  have e1 : L.map (·.1) = xs := List.map_fst_zip (Nat.le_of_eq el)
  have e2 : L.map (fun p => (p.2, p.1.py)) = vs.zip (xs.map D.py) := by
    have : ∀ (xs : List D) (vs : List V), xs.length = vs.length → (xs.zip vs).map (fun p => (p.2, p.1.py)) = vs.zip (xs.map D.py) := by
      intro xs
      induction xs with
      | nil => intro vs h; cases vs <;> simp
      | cons x xs ih => intro vs h; cases vs with
        | nil => simp at h
        | cons v vs => simp [ih vs (by simpa using h)]
    exact this xs vs el
  let le : D × V → D × V → Bool := fun a b => leD a.1 b.1
  have m1 : (L.mergeSort le).map (·.1) = xs.mergeSort leD := by
    rw [List.map_mergeSort (r := le) (s := leD) (f := (·.1)) (fun a _ b _ => rfl), e1]
  have m2 : (L.mergeSort le).map (fun p => (p.2, p.1.py)) = (vs.zip (xs.map D.py)).mergeSort (PySem.W.dataLe false (·.2)) := by
    rw [List.map_mergeSort (r := le) (s := PySem.W.dataLe false (·.2)) (f := fun p => (p.2, p.1.py)) (fun a _ b _ => rfl), e2]
  have hm : ∀ p ∈ L.mergeSort le, Rep K T p.1 p.2 := by
    intro p hp
    have hp : p ∈ L := (List.mergeSort_perm L le).mem_iff.mp hp
    have : ∀ (xs : List D) (vs : List V), RepL K T xs vs → ∀ p ∈ xs.zip vs, Rep K T p.1 p.2 := by
      intro xs
      induction xs with
      | nil => intro vs _ p hp; simp at hp
      | cons x xs ih =>
        intro vs r p hp
        obtain ⟨v, r', rfl, h1, h2⟩ := r.cons_inv
        rw [List.zip_cons_cons] at hp
        rcases List.mem_cons.mp hp with rfl | hp
        · exact h1
        · exact ih r' h2 p hp
    exact this xs vs r p hp
  rw [← m1, ← m2, List.map_map]
  have : ∀ (M : List (D × V)), (∀ p ∈ M, Rep K T p.1 p.2) → RepL K T (M.map (·.1)) (M.map ((fun (q : V × PyData) => q.1) ∘ fun p => (p.2, p.1.py))) := by
    intro M
    induction M with
    | nil => intro _; exact .nil
    | cons p M ih => intro h; exact .cons (h p (by simp)) (ih fun q hq => h q (by simp [hq]))
  exact this _ hm
theorem alike_of {ds : List D} (h : alikeL ds = true) : PySem.W.AllAlike (ds.map D.py) := by
  intro a ha b hb
  obtain ⟨x, hx, rfl⟩ := List.mem_map.mp ha
  obtain ⟨y, hy, rfl⟩ := List.mem_map.mp hb
  unfold alikeL at h
  exact List.all_eq_true.mp (List.all_eq_true.mp h x hx) y hy
theorem sortable_of {ds : List D} (h : (ds.all D.isLst || ds.all D.isTup1) = true) : PySem.W.Sortable (ds.map D.py) := by
  rw [Bool.or_eq_true] at h
  rcases h with h | h
  · refine .inr fun d hd => ?_
    obtain ⟨x, hx, rfl⟩ := List.mem_map.mp hd
    have := List.all_eq_true.mp h x hx
    cases x <;> simp [D.isLst] at this
    simp [D.py]
  · refine .inl fun d hd => ?_
    obtain ⟨x, hx, rfl⟩ := List.mem_map.mp hd
    have := List.all_eq_true.mp h x hx
    cases x with
    | tup xs => cases xs with
      | nil => simp [D.isTup1] at this
      | cons a r => exact ⟨a.py, D.pyL r, by simp only [D.py, D.pyL]⟩
    | _ => simp [D.isTup1] at this
end LH

namespace LH
open PySem PySem.W L2 PySem.Spec PyProof.Rows
/-! ## argument lists, displays -/
section
variable {X : Cx} {e : Expr} {es : List Expr} {m : Sem1 D} {ml : Sem1 (List D)} {pos : Pos}
theorem okL_nil : OkL X [] (fun _ S => .ok [] S) := by
  refine pa_weak pa_nil ?_
  rintro σ H Q ⟨T, ρ, S, rfl, s, re, p⟩
  exact p.now s [] .nil
theorem okL_cons (ha : OkE X e m) (hr : OkL X es ml) (hs : starEach (e :: es) X.env = (false, eval e X.env) :: starEach es X.env) : OkL X (e :: es) (fun ρ S => (m ρ S).bind fun x S1 => (ml ρ S1).bind fun xs S2 => .ok (x :: xs) S2) := by
  refine pa_weak (pa_cons ha hr hs) ?_
  rintro σ H Q ⟨T, ρ, S, rfl, s, re, p⟩
  refine .mk s re (p.bind.imp fun d S1 T1 e1 s1 p1 v hv => .mk s1 (re.mono e1) (p1.bind.imp fun ds S2 T2 e2 s2 p2 vs hvs => ?_))
  exact p2.now s2 _ (.cons (hv.mono e2) hvs)
theorem okE_tup {k : Nat} (h : OkL X es ml) : OkE X (.Tuple es k pos) (fun ρ S => (ml ρ S).bind fun xs S' => mkT xs S') := by
  refine pe_weak (pe_tup h) ?_
  rintro σ H Q ⟨T, ρ, S, rfl, s, re, p⟩
  refine .mk s re (p.bind.imp fun ds S1 T1 e1 s1 p1 vs hvs => ⟨?_, fun c hc => (mkT_ok s1 hvs p1 hc).2⟩)
  have : ds.length ≤ LMAX := by
    unfold mkT at p1
    split at p1
    · assumption
    · exact p1.elim
  rw [← hvs.length]; exact Nat.le_trans this LMAX_le
theorem okE_lst {b : Bool} (h : OkL X es ml) : OkE X (.List es pos) (fun ρ S => (ml ρ S).bind fun xs S' => mkL b xs S') := by
  refine pe_weak (pe_lst h) ?_
  rintro σ H Q ⟨T, ρ, S, rfl, s, re, p⟩
  refine .mk s re (p.bind.imp fun ds S1 T1 e1 s1 p1 vs hvs => ⟨?_, fun c hc => mkL_ok s1 hvs p1 hc⟩)
  rw [← hvs.length]; exact Nat.le_trans (mkL_len p1) LMAX_le
theorem okE_dct {b : Bool} {c₀} : OkE X (.Dict [] [] pos) (semE c₀ (.dct b false)) := by
  refine pe_weak pe_dnewK ?_
  rintro σ H Q ⟨T, ρ, S, rfl, s, re, p⟩
  simp only [semE] at p
  exact fun c hc => mkD_ok (u := .dK []) (vs := []) s (.inl ⟨rfl, [], rfl, rfl, rfl⟩) .nil p hc
theorem okE_dctT {b : Bool} {c₀} : OkE X (.Dict [] [] pos) (semE c₀ (.dct b true)) := by
  refine pe_weak pe_dnewT ?_
  rintro σ H Q ⟨T, ρ, S, rfl, s, re, p⟩
  simp only [semE] at p
  exact fun c hc => mkD_ok (u := .dT []) (vs := []) s (.inr ⟨rfl, [], rfl, rfl, rfl⟩) .nil p hc
variable {a b : Expr} {ma mb mc : Sem1 D}
theorem okE_ix (hu : X.A.units + 1 < cLine) (ha : OkE X a ma) (hb : OkE X b mb) (hs : PlainIx b) : OkE X (.Subscript a b pos) (fun ρ S => (ma ρ S).bind fun x S1 => (mb ρ S1).bind fun y S2 => .opt (ixD x y S2) S2) := by
  obtain ⟨r, hr, ok⟩ := ok_ix (X := X) hu
  refine pe_weak (pe_ix hr ha hb hs) ?_
  rintro σ H Q ⟨T, ρ, S, rfl, s, re, p⟩
  refine .mk s re (p.bind.imp fun d S1 T1 e1 s1 p1 v hv => .mk s1 (re.mono e1) (p1.bind.imp fun d2 S2 T2 e2 s2 p2 v2 hv2 => ?_))
  obtain ⟨z, e, p3⟩ := p2.opt
  exact ok T2 S2 v v2 d d2 z Q s2 (hv.mono e2) hv2 e (p3.now s2)
/-- a slice's part -/
def tPO (K : Frag) (n : Bool) (m : Sem1 D) : TO := fun σ H Q => ∃ T ρ S, T.H = H ∧ SOk K T S ∧ REnv K T ρ σ ∧ Post K T (m ρ S) fun d S' T' => ∃ o, partE n d = some o ∧ Q o T'.H
theorem po_weak {o : Option Expr} {t t' : TO} (h : PO X o t) (f : ∀ σ H Q, t' σ H Q → t σ H Q) : PO X o t' := ⟨fun pins s σ H Q I q => h.run pins s σ H Q I (f σ H Q q)⟩
theorem okO_none {m : Sem1 D} (hm : ∀ ρ S, m ρ S = .ok .non S) : PO X none (tPO X.K true m) := by
  refine po_weak po_none ?_
  rintro σ H Q ⟨T, ρ, S, rfl, s, re, p⟩
  rw [hm] at p
  obtain ⟨o, e, q⟩ := p.now s
  cases e
  exact q
theorem okO_some (ha : OkE X a ma) : PO X (some a) (tPO X.K false ma) := by
  refine po_weak (po_some ha) ?_
  rintro σ H Q ⟨T, ρ, S, rfl, s, re, p⟩
  refine .mk s re (p.imp fun d S1 T1 e1 s1 ⟨o, eo, q⟩ v hv => ?_)
  cases d with
  | int i => cases eo; exact ⟨i, hv.int, q⟩
  | _ => cases eo
theorem okE_sl {b1 n1 n2 : Bool} {lo hi : Option Expr} {p2 : Pos} (ha : OkE X a ma) (hl : PO X lo (tPO X.K n1 mb)) (hh : PO X hi (tPO X.K n2 mc)) : OkE X (.Subscript a (.Slice lo hi none p2) pos) (fun ρ S => (ma ρ S).bind fun x S1 => (mb ρ S1).bind fun l S2 => (mc ρ S2).bind fun h S3 => match partE n1 l, partE n2 h with
    | some l', some h' => slD b1 x l' h' S3
    | _, _ => .no) := by
  obtain ⟨r, hr, ok⟩ := ok_sl (X := X) b1
  refine pe_weak (pe_slice hr ha hl hh) ?_
  rintro σ H Q ⟨T, ρ, S, rfl, s, re, p⟩
  refine .mk s re (p.bind.imp fun d S1 T1 e1 s1 p1 v hv => ⟨T1, ρ, S1, rfl, s1, re.mono e1, p1.bind.imp fun l S2 T2 e2 s2 p2 => ?_⟩)
  have hl : ∃ o, partE n1 l = some o := by
    cases h : partE n1 l with
    | some o => exact ⟨o, rfl⟩
    | none =>
      exfalso
      have q := p2.bind
      cases hm : mc ρ S2 with
      | ok d3 S3 =>
        rw [hm] at p2
        simp only [R.bind_ok, h] at p2
        exact p2
      | ex _ _ _ => rw [hm] at q; exact q
      | no => rw [hm] at q; exact q
  obtain ⟨o, ho⟩ := hl
  refine ⟨o, ho, T2, ρ, S2, rfl, s2, (re.mono e1).mono e2, p2.bind.imp fun h S3 T3 e3 s3 p3 => ?_⟩
  rw [ho] at p3
  cases hh : partE n2 h with
  | some o2 =>
    rw [hh] at p3
    exact ⟨o2, rfl, ok T3 S3 v d o o2 Q s3 (hv.mono (e2.trans e3)) p3⟩
  | none => rw [hh] at p3; exact p3.elim
theorem okE_slr {b1 : Bool} {k : Nat} {q1 q2 q3 : Pos} (ha : OkE X a ma) : OkE X (.Subscript a (.Slice none none (some (.UnaryOp .USub (.Constant (.int 1) k q1) q2)) q3) pos) (fun ρ S => (ma ρ S).bind fun x S1 => match lstD S1 x with
    | some xs => mkL b1 xs.reverse S1
    | none => .no) := by
  refine pe_weak (pe_revL ha) ?_
  rintro σ H Q ⟨T, ρ, S, rfl, s, re, p⟩
  refine .mk s re (p.bind.imp fun d S1 T1 e1 s1 p1 v hv => ?_)
  split at p1
  · rename_i xs e
    obtain ⟨c, vs, rfl, e2, r⟩ := lstD_rep s1 hv e
    exact ⟨c, vs, rfl, SqL.of e2, fun z hz => mkL_ok s1 r.reverse p1 hz⟩
  · exact p1.elim
end
/-! ## built-in functions -/
section
variable {X : Cx}
theorem CallR.or {f : Value} {r r' : List V → Hp → VK → Prop} (h : CallR X f r) (h' : CallR X f r') : CallR X f (fun xs H Q => r xs H Q ∨ r' xs H Q) :=
  fun pins s σ H xs us Q I v q => q.elim (h pins s σ H xs us Q I v) (h' pins s σ H xs us Q I v)
def CbOk (X : Cx) (m : Bool) (b : Bi) (f : Value) : Prop :=
  ∃ r, CallR X f r ∧ ∀ (T : Tr) (S : Store) (as : List D) (vs : List V) (Q : VK), SOk X.K T S → RepL X.K T as vs → Post X.K T (biD m b as S) (kV' X.K Q) → r vs T.H Q
theorem RepL.one {K : Frag} {T : Tr} {d : D} {vs : List V} (h : RepL K T [d] vs) : ∃ v, vs = [v] ∧ Rep K T d v := by
  obtain ⟨v, r, rfl, h1, h2⟩ := h.cons_inv
  rw [h2.nil_inv]
  exact ⟨v, rfl, h1⟩
theorem RepL.two {K : Frag} {T : Tr} {d e : D} {vs : List V} (h : RepL K T [d, e] vs) : ∃ v u, vs = [v, u] ∧ Rep K T d v ∧ Rep K T e u := by
  obtain ⟨v, r, rfl, h1, h2⟩ := h.cons_inv
  obtain ⟨u, rfl, h3⟩ := h2.one
  exact ⟨v, u, rfl, h1, h3⟩
theorem lst_ints {K : Frag} {T : Tr} {S : Store} (s : SOk K T S) {d : D} {v : V} {is : List Int} (h : Rep K T d v) (e : (lstD S d).bind intsD = some is) : ∃ a, v = .ref a ∧ T.H a = some (.lst (is.map V.int)) := by
  simp only [Option.bind_eq_some_iff] at e
  obtain ⟨xs, e1, e2⟩ := e
  rw [intsD_eq e2] at e1
  obtain ⟨a, vs, rfl, e3, r⟩ := lstD_rep s h e1
  exact ⟨a, rfl, by rw [e3, r.ints]⟩
theorem lst_bls {K : Frag} {T : Tr} {S : Store} (s : SOk K T S) {d : D} {v : V} {is : List Bool} (h : Rep K T d v) (e : (lstD S d).bind blsD = some is) : ∃ a, v = .ref a ∧ T.H a = some (.lst (is.map V.bl)) := by
  simp only [Option.bind_eq_some_iff] at e
  obtain ⟨xs, e1, e2⟩ := e
  rw [blsD_eq e2] at e1
  obtain ⟨a, vs, rfl, e3, r⟩ := lstD_rep s h e1
  exact ⟨a, rfl, by rw [e3, r.bls]⟩
theorem call_lenRd : CallR X (.builtin "len") (fun xs H Q => ∃ a kvs, xs = [V.ref a] ∧ Rd H a (.dK kvs) ∧ Q (.int kvs.length) H) := by
  intro pins s σ H xs us Q I r h
  obtain ⟨a, kvs, rfl, ha, q⟩ := h
  obtain ⟨u, rfl, ru⟩ := vals1 r
  cases ru
  exact d_len I ha fun t s' I' => ⟨.int kvs.length, H, I', ⟨t, rfl⟩, q⟩
theorem cb_len (m : Bool) : CbOk X m .len (.builtin "len") := by
  refine ⟨_, call_len.or call_lenRd, fun T S as vs Q s h p => ?_⟩
  simp only [biD, biLen] at p
  split at p
  · obtain ⟨v, rfl, hv⟩ := h.one
    obtain ⟨o, e, p⟩ := p.opt
    simp only [Option.map_eq_some_iff] at e
    obtain ⟨n, e, rfl⟩ := e
    have p := p.now s _ Rep.mk_int
    unfold lenD at e
    split at e
    · split at e
      · rename_i hz
        cases e
        exact .inl ⟨_, _, rfl, by rw [hv.str]; exact ⟨Nat.le_trans hz LMAX_le, rfl⟩, p⟩
      · cases e
    · cases e
      obtain ⟨a, us, rfl, _, e1, r⟩ := hv.lst
      exact .inl ⟨_, _, rfl, .inl ⟨us, SqL.of e1, r.length⟩, p⟩
    · cases e
      obtain ⟨a, us, rfl, _, e1, r⟩ := hv.tup
      exact .inl ⟨_, _, rfl, .inr ⟨us, SqT.of e1, r.length⟩, p⟩
    · cases e
      obtain ⟨a, rfl, e1⟩ := hv.scr
      exact .inl ⟨_, _, rfl, .inl ⟨_, e1, (List.length_map _).symm⟩, p⟩
    · split at e
      · rename_i hs
        cases e
        obtain ⟨_, _, us, e1, r⟩ := s.ob _ _ hs
        rw [hv.ref.2]
        exact .inl ⟨_, _, rfl, .inl ⟨us, SqL.of e1, r.length⟩, p⟩
      · rename_i kvs hs
        cases e
        obtain ⟨_, _, u, us, e1, k, r⟩ := s.ob _ _ hs
        rw [hv.ref.2]
        rcases k with ⟨_, kv, rfl, e2, _⟩ | ⟨z, _⟩
        · have hl : kvs.length = kv.length := by
            have := congrArg List.length e2
            simpa using this
          exact .inr ⟨_, kv, rfl, .inl e1, by rw [← hl]; exact p⟩
        · cases z
      · rename_i kvs hs
        cases e
        obtain ⟨_, od, u, us, e1, k, r⟩ := s.ob _ _ hs
        rw [hv.ref.2]
        rcases k with ⟨_, kv, rfl, e2, _⟩ | ⟨z, _⟩
        · have hl : kvs.length = kv.length := by
            have := congrArg List.length e2
            simpa using this
          exact .inr ⟨_, kv, rfl, .inr ⟨od, e1⟩, by rw [← hl]; exact p⟩
        · cases z
      · cases e
    · rename_i ks ds
      cases e
      obtain ⟨a, u, us, rfl, _, e1, k, r⟩ := hv.dct
      rcases k with ⟨_, kv, rfl, e2, _⟩ | ⟨z, _⟩
      · have hl : ks.length = kv.length := by
          have := congrArg List.length e2
          simpa using this
        exact .inr ⟨_, kv, rfl, e1, by rw [← hl]; exact p⟩
      · cases z
    · cases e
  · exact p.elim
theorem cb_abs (m : Bool) : CbOk X m .abs (.builtin "abs") := by
  refine ⟨_, call_abs, fun T S as vs Q s h p => ?_⟩
  simp only [biD, biAbs] at p
  split at p
  · obtain ⟨v, rfl, hv⟩ := h.one
    rw [hv.int]
    exact ⟨_, rfl, p.now s _ Rep.mk_int⟩
  · exact p.elim
theorem maxI_mem : ∀ (i : Int) (r : List Int), maxI i r ∈ i :: r ∧ ∀ y ∈ i :: r, y ≤ maxI i r
  | i, [] => by simp [maxI]
  | i, j :: r => by
    have ih := maxI_mem (if j > i then j else i) r
    unfold maxI
    obtain ⟨h1, h2⟩ := ih
    have h3 := h2 _ List.mem_cons_self
    refine ⟨?_, fun y hy => ?_⟩
    · rcases List.mem_cons.mp h1 with e | e
      · rw [e]; split <;> simp
      · exact List.mem_cons_of_mem _ (List.mem_cons_of_mem _ e)
    · rcases List.mem_cons.mp hy with rfl | hy
      · split at h3 <;> split <;> omega
      · rcases List.mem_cons.mp hy with rfl | hy
        · split at h3 <;> split <;> omega
        · exact h2 y (List.mem_cons_of_mem _ hy)
theorem minI_mem : ∀ (i : Int) (r : List Int), minI i r ∈ i :: r ∧ ∀ y ∈ i :: r, minI i r ≤ y
  | i, [] => by simp [minI]
  | i, j :: r => by
    have ih := minI_mem (if j < i then j else i) r
    unfold minI
    obtain ⟨h1, h2⟩ := ih
    have h3 := h2 _ List.mem_cons_self
    refine ⟨?_, fun y hy => ?_⟩
    · rcases List.mem_cons.mp h1 with e | e
      · rw [e]; split <;> simp
      · exact List.mem_cons_of_mem _ (List.mem_cons_of_mem _ e)
    · rcases List.mem_cons.mp hy with rfl | hy
      · split at h3 <;> split <;> omega
      · rcases List.mem_cons.mp hy with rfl | hy
        · split at h3 <;> split <;> omega
        · exact h2 y (List.mem_cons_of_mem _ hy)
theorem nuMax2_int (i j : Int) : nuMax2 (.int i) (.int j) = some (.int (if j > i then j else i)) := by
  show some (if decide (i < j) = true then V.int j else V.int i) = _
  by_cases h : i < j <;> simp [h]
theorem nuMin2_int (i j : Int) : nuMin2 (.int i) (.int j) = some (.int (if j < i then j else i)) := by
  show some (if decide (j < i) = true then V.int j else V.int i) = _
  by_cases h : j < i <;> simp [h]
theorem nuMax3_int (i j k : Int) : nuMax3 (.int i) (.int j) (.int k) = some (.int (max3 i j k)) := by
  unfold nuMax3
  rw [nuMax2_int, Option.bind_some, nuMax2_int]; rfl
theorem nuMin3_int (i j k : Int) : nuMin3 (.int i) (.int j) (.int k) = some (.int (min3 i j k)) := by
  unfold nuMin3
  rw [nuMin2_int, Option.bind_some, nuMin2_int]; rfl
theorem cb_max (hc : X.calm = true) (m : Bool) : CbOk X m .max (.builtin "max") := by
  refine ⟨_, (call_max2 hc).or ((cr_max hc).or (call_max3Nu hc)), fun T S as vs Q s h p => ?_⟩
  simp only [biD, biMax] at p
  split at p
  · obtain ⟨v, u, rfl, hv, hu⟩ := h.two
    rw [hv.int, hu.int]
    exact .inl ⟨_, _, rfl, p.now s _ Rep.mk_int⟩
  · obtain ⟨v, r, rfl, hv, h2⟩ := h.cons_inv
    obtain ⟨u, w, rfl, hu, hw⟩ := h2.two
    rw [hv.int, hu.int, hw.int]
    rename_i i j k
    refine .inr (.inr ⟨_, _, _, .int (max3 i j k), rfl, ?_, p.now s _ Rep.mk_int⟩)
    exact nuMax3_int i j k
  · split at p
    · rename_i i r e
      obtain ⟨v, rfl, hv⟩ := h.one
      obtain ⟨a, rfl, e1⟩ := lst_ints s hv e
      refine .inr (.inl ⟨a, i :: r, rfl, SqL.of e1, by simp, fun z hz hle => ?_⟩)
      obtain ⟨h1, h2⟩ := maxI_mem i r
      have e2 : z = maxI i r := Int.le_antisymm (h2 z hz) (hle _ h1)
      rw [e2]
      exact p.now s _ Rep.mk_int
    · exact p.elim
  · exact p.elim
theorem cb_min (hc : X.calm = true) (m : Bool) : CbOk X m .min (.builtin "min") := by
  refine ⟨_, (call_min2 hc).or ((cr_min hc).or (call_min3Nu hc)), fun T S as vs Q s h p => ?_⟩
  simp only [biD, biMin] at p
  split at p
  · obtain ⟨v, u, rfl, hv, hu⟩ := h.two
    rw [hv.int, hu.int]
    exact .inl ⟨_, _, rfl, p.now s _ Rep.mk_int⟩
  · obtain ⟨v, r, rfl, hv, h2⟩ := h.cons_inv
    obtain ⟨u, w, rfl, hu, hw⟩ := h2.two
    rw [hv.int, hu.int, hw.int]
    rename_i i j k
    refine .inr (.inr ⟨_, _, _, .int (min3 i j k), rfl, ?_, p.now s _ Rep.mk_int⟩)
    exact nuMin3_int i j k
  · split at p
    · rename_i i r e
      obtain ⟨v, rfl, hv⟩ := h.one
      obtain ⟨a, rfl, e1⟩ := lst_ints s hv e
      refine .inr (.inl ⟨a, i :: r, rfl, SqL.of e1, by simp, fun z hz hle => ?_⟩)
      obtain ⟨h1, h2⟩ := minI_mem i r
      have e2 : z = minI i r := Int.le_antisymm (hle _ h1) (h2 z hz)
      rw [e2]
      exact p.now s _ Rep.mk_int
    · exact p.elim
  · exact p.elim
theorem cb_int (m : Bool) : CbOk X m .int (.type "int") := by
  refine ⟨_, call_int1, fun T S as vs Q s h p => ?_⟩
  simp only [biD, biInt] at p
  split at p
  · obtain ⟨v, rfl, hv⟩ := h.one
    rw [hv.int]
    exact .inl ⟨_, rfl, p.now s _ Rep.mk_int⟩
  · obtain ⟨v, rfl, hv⟩ := h.one
    rw [hv.bl]
    exact .inr ⟨_, rfl, p.now s _ Rep.mk_int⟩
  · exact p.elim
theorem cb_bool (m : Bool) : CbOk X m .bool (.type "bool") := by
  refine ⟨_, call_bool1, fun T S as vs Q s h p => ?_⟩
  simp only [biD, biBool] at p
  split at p
  · obtain ⟨v, rfl, hv⟩ := h.one
    rw [hv.int]
    exact .inl ⟨_, rfl, p.now s _ Rep.mk_bl⟩
  · obtain ⟨v, rfl, hv⟩ := h.one
    rw [hv.bl]
    exact .inr ⟨_, rfl, p.now s _ Rep.mk_bl⟩
  · exact p.elim
theorem cb_sum (hc : X.calm = true) (m : Bool) : CbOk X m .sum (.builtin "sum") := by
  refine ⟨_, (cr_sum hc).or (cr_sumL hc), fun T S as vs Q s h p => ?_⟩
  simp only [biD, biSum] at p
  split at p
  · split at p
    · rename_i e
      obtain ⟨v, rfl, hv⟩ := h.one
      obtain ⟨a, rfl, e1⟩ := lst_ints s hv e
      exact .inl ⟨a, _, rfl, SqL.of e1, p.now s _ Rep.mk_int⟩
    · exact p.elim
  · rename_i d e
    obtain ⟨v, u, rfl, hv, hu⟩ := h.two
    have key : ∀ yss zs, (lstD S d).bind (listsD S) = some yss → lstD S e = some zs → ∃ a b as xss us, v = .ref a ∧ u = .ref b ∧ T.H a = some (.lst (as.map V.ref)) ∧ T.H b = some (.lst us) ∧ Lists T.H as xss ∧ RepL X.K T zs us ∧ RepL X.K T yss.flatten xss.flatten ∧ as.length = yss.length := by
      intro yss zs h1 h2
      simp only [Option.bind_eq_some_iff] at h1
      obtain ⟨ds, h1, h3⟩ := h1
      obtain ⟨a, vs, rfl, e1, r1⟩ := lstD_rep s hv h1
      obtain ⟨b, us, rfl, e2, r2⟩ := lstD_rep s hu h2
      obtain ⟨as, xss, rfl, l, r3, r4⟩ := listsD_rep s r1 h3
      exact ⟨a, b, as, xss, us, rfl, rfl, e1, e2, l, r2, r3, r4⟩
    split at p
    · rename_i zs h1 h2
      obtain ⟨a, b, as, xss, us, rfl, rfl, e1, e2, l, r2, r3, r4⟩ := key _ _ h1 h2
      have hx : as = [] := by simpa using r4
      subst hx
      cases l
      split at p
      · rename_i hz
        refine .inr ⟨a, b, [], [], us, rfl, SqL.of e1, e2, .nil, ?_, fun H' p' g e hn he => ?_⟩
        · have := r2.length
          rw [this] at hz
          simpa using Nat.le_trans hz LMAX_le
        · obtain ⟨rfl, rfl⟩ := he rfl
          exact p.now s _ hu
      · exact p.elim
    · rename_i yss zs h0 h1 h2
      obtain ⟨a, b, as, xss, us, rfl, rfl, e1, e2, l, r2, r3, r4⟩ := key _ _ h1 h2
      have hl := mkL_len p
      rw [List.length_append, r2.length, r3.length] at hl
      refine .inr ⟨a, b, as, xss, us, rfl, SqL.of e1, e2, l, Nat.le_trans hl LMAX_le, fun H' p' g e hn he => ?_⟩
      have hne : as ≠ [] := fun z => by
        subst z
        have : yss = [] := by cases yss with
          | nil => rfl
          | cons _ _ => simp at r4
        exact h0 this
      exact mkL_grow s (r2.append r3) p g (hn hne) e
    · exact p.elim
  · exact p.elim
theorem insI_perm (x : Int) : ∀ r, (insI x r).Perm (x :: r)
  | [] => .refl _
  | y :: r => by
    unfold insI
    split
    · exact .refl _
    · exact ((insI_perm x r).cons y).trans (.swap x y r)
theorem sortI_perm : ∀ r, (sortI r).Perm r
  | [] => .refl _
  | x :: r => by
    unfold sortI
    exact (insI_perm x _).trans ((sortI_perm r).cons x)
theorem insI_sorted (x : Int) : ∀ r : List Int, r.Pairwise (fun a b => a ≤ b) → (insI x r).Pairwise (fun a b => a ≤ b)
  | [], _ => by simp [insI]
  | y :: r, h => by
    unfold insI
    rw [List.pairwise_cons] at h
    split
    · rename_i hxy
      rw [List.pairwise_cons]
      refine ⟨fun z hz => ?_, List.pairwise_cons.mpr h⟩
      rcases List.mem_cons.mp hz with rfl | hz
      · exact hxy
      · exact Int.le_trans hxy (h.1 z hz)
    · rename_i hxy
      rw [List.pairwise_cons]
      refine ⟨fun z hz => ?_, insI_sorted x r h.2⟩
      rcases List.mem_cons.mp ((insI_perm x r).mem_iff.mp hz) with rfl | hz
      · omega
      · exact h.1 z hz
theorem sortI_sorted : ∀ r : List Int, (sortI r).Pairwise (fun a b => a ≤ b)
  | [] => by simp [sortI]
  | x :: r => by unfold sortI; exact insI_sorted x _ (sortI_sorted r)
/-! texts in order -/
theorem strLe_iff {x y : Str} : strLe x y = true ↔ x.cps.toList ≤ y.cps.toList := by
  unfold strLe
  simp [List.not_lt]
theorem strLe_anti {x y : Str} (h : strLe x y = true) (g : strLe y x = true) : x = y := by
  have := List.le_antisymm (strLe_iff.mp h) (strLe_iff.mp g)
  cases x; cases y
  simpa using this
theorem strLe_trans {x y z : Str} (h : strLe x y = true) (g : strLe y z = true) : strLe x z = true :=
  strLe_iff.mpr (List.le_trans (strLe_iff.mp h) (strLe_iff.mp g))
theorem strLe_total (x y : Str) : strLe x y = true ∨ strLe y x = true := by
  rcases List.le_total x.cps.toList y.cps.toList with h | h
  · exact .inl (strLe_iff.mpr h)
  · exact .inr (strLe_iff.mpr h)
theorem insS_perm (x : Str) : ∀ r, (insS x r).Perm (x :: r)
  | [] => .refl _
  | y :: r => by
    unfold insS
    split
    · exact .refl _
    · exact ((insS_perm x r).cons y).trans (.swap x y r)
theorem sortS_perm : ∀ r, (sortS r).Perm r
  | [] => .refl _
  | x :: r => by
    unfold sortS
    exact (insS_perm x _).trans ((sortS_perm r).cons x)
theorem insS_sorted (x : Str) : ∀ r : List Str, r.Pairwise (fun a b => strLe a b = true) → (insS x r).Pairwise (fun a b => strLe a b = true)
  | [], _ => by simp [insS]
  | y :: r, h => by
    unfold insS
    rw [List.pairwise_cons] at h
    split
    · rename_i hxy
      rw [List.pairwise_cons]
      refine ⟨fun z hz => ?_, List.pairwise_cons.mpr h⟩
      rcases List.mem_cons.mp hz with rfl | hz
      · exact hxy
      · exact strLe_trans hxy (h.1 z hz)
    · rename_i hxy
      rw [List.pairwise_cons]
      refine ⟨fun z hz => ?_, insS_sorted x r h.2⟩
      rcases List.mem_cons.mp ((insS_perm x r).mem_iff.mp hz) with rfl | hz
      · exact (strLe_total z y).resolve_left hxy
      · exact h.1 z hz
theorem sortS_sorted : ∀ r : List Str, (sortS r).Pairwise (fun a b => strLe a b = true)
  | [] => by simp [sortS]
  | x :: r => by unfold sortS; exact insS_sorted x _ (sortS_sorted r)
theorem risingS_le : ∀ (p : Str) (l : List Str), risingS p l = true → (p :: l).Pairwise (fun a b => strLe a b = true)
  | p, [], _ => by simp
  | p, x :: r, h => by
    simp only [risingS, Bool.and_eq_true] at h
    have ih := risingS_le x r h.2
    have hpx : strLe p x = true := by
      unfold strLe
      rw [← ltCps_eq]; exact h.1
    rw [List.pairwise_cons]
    refine ⟨fun z hz => ?_, ih⟩
    rcases List.mem_cons.mp hz with rfl | hz
    · exact hpx
    · exact strLe_trans hpx ((List.pairwise_cons.mp ih).1 z hz)
theorem sorted_eqS {ys ks : List Str} (hp : ys.Perm ks) (hs : sortedS ys = true) : ys = sortS ks := by
  have h : ys.Pairwise (fun a b => strLe a b = true) := by
    cases ys with
    | nil => exact .nil
    | cons y r => exact risingS_le y r hs
  exact (hp.trans (sortS_perm ks).symm).eq_of_pairwise (fun a b _ _ h1 h2 => strLe_anti h1 h2) h (sortS_sorted ks)
theorem sorted_eqI {ns is : List Int} (hp : ns.Perm is) (hs : ns.Pairwise (fun a b => a ≤ b)) : ns = sortI is :=
  (hp.trans (sortI_perm is).symm).eq_of_pairwise (fun a b _ _ h1 h2 => Int.le_antisymm h1 h2) hs (sortI_sorted is)
theorem keysI_eq : ∀ {kvs : List (KY × D)} {is : List Int}, keysI kvs = some is → kvs.map (·.1) = is.map fun i => KY.k (.inl i)
  | [], _, h => by simp [keysI] at h; subst h; rfl
  | (.k (.inl i), _) :: r, is, h => by
    simp only [keysI, Option.map_eq_some_iff] at h
    obtain ⟨js, h1, rfl⟩ := h
    simp [keysI_eq h1]
  | (.k (.inr _), _) :: r, is, h => by simp [keysI] at h
  | (.t _, _) :: r, is, h => by simp [keysI] at h
theorem keysS_eq : ∀ {kvs : List (KY × D)} {xs : List Str}, keysS kvs = some xs → kvs.map (·.1) = xs.map fun i => KY.k (.inr i)
  | [], _, h => by simp [keysS] at h; subst h; rfl
  | (.k (.inr i), _) :: r, is, h => by
    simp only [keysS, Option.map_eq_some_iff] at h
    obtain ⟨js, h1, rfl⟩ := h
    simp [keysS_eq h1]
  | (.k (.inl _), _) :: r, is, h => by simp [keysS] at h
  | (.t _, _) :: r, is, h => by simp [keysS] at h
theorem strsD_eq : ∀ {xs : List D} {is : List Str}, strsD xs = some is → xs = is.map .str
  | [], _, h => by simp [strsD] at h; subst h; rfl
  | d :: r, is, h => by
    cases d with
    | str i =>
      simp only [strsD, Option.map_eq_some_iff] at h
      obtain ⟨js, h1, rfl⟩ := h
      rw [strsD_eq h1]; rfl
    | _ => simp [strsD] at h
theorem RepL.strs {K : Frag} {T : Tr} : ∀ {is : List Str} {vs : List V}, RepL K T (is.map .str) vs → vs = is.map V.str
  | [], _, h => h.nil_inv
  | i :: is, _, h => by
    obtain ⟨v, r, rfl, h1, t⟩ := h.cons_inv
    rw [h1.str, RepL.strs t]; rfl
theorem RepL.mk_strs {K : Frag} {T : Tr} : ∀ (is : List Str), RepL K T (is.map .str) (is.map V.str)
  | [] => .nil
  | _ :: is => .cons Rep.mk_str (RepL.mk_strs is)
theorem cb_sorted (hc : X.calm = true) (hu : X.A.units + 65 < cLine) (m : Bool) : CbOk X m .sorted (.builtin "sorted") := by
  refine ⟨_, ((cr_sortedI.or cr_sortedS).or ((call_sortedD hc).or (call_sortedDI hc))).or (cr_srt hu), fun T S as vs Q s h p => ?_⟩
  simp only [biD, biSorted] at p
  split at p
  · obtain ⟨v, rfl, hv⟩ := h.one
    split at p
    · rename_i is e
      obtain ⟨a, rfl, e1⟩ := lst_ints s hv e
      refine .inl (.inl (.inl ⟨a, is, rfl, SqL.of e1, fun ns c hp hs hc => ?_⟩))
      rw [sorted_eqI hp hs]
      exact mkL_ok s (RepL.mk_ints _) p hc
    · split at p
      · rename_i kvs e
        obtain ⟨a, u, us, rfl, e1, k, r⟩ := dctD_rep s hv e
        rcases k with ⟨_, kv, rfl, ek, _⟩ | ⟨z, _⟩
        · have hl : kvs.length = kv.length := by
            have := congrArg List.length ek
            simpa using this
          split at p
          · rename_i h64
            split at p
            · rename_i is hk
              have e2 := (keysI_eq hk).symm.trans ek
              have e3 : kv.map (·.1) = is.map Sum.inl := by
                have := congrArg (List.map fun | KY.k x => x | KY.t _ => Sum.inl 0) e2
                simpa [List.map_map, Function.comp_def] using this.symm
              have hl2 : is.length = kvs.length := by
                have := congrArg List.length (keysI_eq hk)
                simpa using this.symm
              refine .inl (.inr (.inr ⟨a, kv, is, rfl, e1, e3, by omega, fun ys p' hp hs hn => ?_⟩))
              rw [sorted_eqI hp hs]
              exact mkL_ok s (RepL.mk_ints _) p hn
            · rename_i xs hk _
              have e2 := (keysS_eq hk).symm.trans ek
              have e3 : kv.map (·.1) = xs.map Sum.inr := by
                have := congrArg (List.map fun | KY.k x => x | KY.t _ => Sum.inl 0) e2
                simpa [List.map_map, Function.comp_def] using this.symm
              have hl2 : xs.length = kvs.length := by
                have := congrArg List.length (keysS_eq hk)
                simpa using this.symm
              refine .inl (.inr (.inl ⟨a, kv, xs, rfl, e1, e3, by omega, fun ys p' hp hs hn => ?_⟩))
              rw [sorted_eqS hp hs]
              exact mkL_ok s (RepL.mk_strs _) p hn
            · exact p.elim
          · exact p.elim
        · cases z
      · split at p
        · rename_i xs e
          split at p
          · rename_i h64
            simp only [Option.bind_eq_some_iff] at e
            obtain ⟨ys, e1, e2⟩ := e
            rw [strsD_eq e2] at e1
            obtain ⟨a, us, rfl, e3, r⟩ := lstD_rep s hv e1
            rw [r.strs] at e3
            refine .inl (.inl (.inr ⟨a, xs, rfl, SqL.of e3, h64, fun zs p' hp hs hn => ?_⟩))
            rw [sorted_eqS hp hs]
            exact mkL_ok s (RepL.mk_strs _) p hn
          · exact p.elim
        · split at p
          · rename_i xs e1
            split at p
            · rename_i hz
              simp only [Bool.and_eq_true] at hz
              obtain ⟨⟨hp, ht⟩, ha⟩ := hz
              obtain ⟨a, us, rfl, e3, r⟩ := lstD_rep s hv e1
              refine .inr ⟨a, us, xs.map D.py, rfl, SqL.of e3, by rw [← pyL_map]; exact RepL.dpP hp r, alike_of ha, sortable_of ht, fun d hd => ?_, fun c hc => mkL_ok s (srt_rep r) p hc⟩
              obtain ⟨x, hx, rfl⟩ := List.mem_map.mp hd
              exact Nat.le_trans (depth_plain 10 x (plainR_of _ _ (plainL_mem hp x hx))) (by decide)
            · exact p.elim
          · exact p.elim
  · exact p.elim
theorem signs_vals : ∀ (l : List Nat) (vs : List Value), l.length = vs.length → (∀ (j : Nat) (v : Value), vs[j]? = some v → ∃ c u, l[j]? = some c ∧ v = .str ⟨#[c]⟩ u) → Vals (l.map fun c => V.str ⟨#[c]⟩) vs
  | [], [], _, _ => .nil
  | [], _ :: _, h, _ => by simp at h
  | _ :: _, [], h, _ => by simp at h
  | c :: l, v :: vs, h, g => by
    obtain ⟨c', u, e1, rfl⟩ := g 0 v rfl
    simp at e1
    subst e1
    exact .cons ⟨u, rfl⟩ (signs_vals l vs (by simpa using h) fun j w e => g (j + 1) w (by simpa using e))
theorem call_list_txt (hc : X.calm = true) : CallR X (.type "list") (fun xs H Q => ∃ x : Str, xs = [.str x] ∧ x.length ≤ LMAX ∧ ∀ l, H l = none → Q (.ref l) (upd H l (.lst (x.cps.toList.map fun c => V.str ⟨#[c]⟩)))) := by
  intro pins s σ H xs us Q I r h
  obtain ⟨x, rfl, hz, q⟩ := h
  obtain ⟨u, rfl, t, rfl⟩ := vals1 r
  refine PySem.call_list_str (I.ok.hd hc) x t (fun h' tk acc' c' kp e hi => ?_) (Nat.le_trans hz LMAX_le)
  have hv : Vals (x.cps.toList.map fun c => V.str ⟨#[c]⟩) acc'.toList := signs_vals _ _ (by rw [Array.length_toList, Array.length_toList, hi.1]) fun j v ev => by
    obtain ⟨c, u, e1, e2⟩ := hi.2 j v (by simpa using ev)
    exact ⟨c, u, by simpa using e1, e2⟩
  exact ⟨.ref s.heap.objs.size, _, I.laid (t' := tk) kp (Nat.le_refl _) (show ObjOk X.prog X.w _ h' _ (.lst (x.cps.toList.map fun c => V.str ⟨#[c]⟩)) from ⟨by rw [List.length_map, Array.length_toList]; exact Nat.le_trans hz LMAX_le, acc'.toList, c', hv, by simpa using e⟩), rfl, q _ (I.hok.fresh (Nat.le_refl _))⟩
theorem cb_list (hc : X.calm = true) (m : Bool) : CbOk X m .list (.type "list") := by
  refine ⟨_, call_list_of.or (call_list_txt hc), fun T S as vs Q s h p => ?_⟩
  simp only [biD, biList] at p
  split at p
  · split at p
    · rename_i x hz
      obtain ⟨v, rfl, hv⟩ := h.one
      rw [hv.str]
      refine .inr ⟨x, rfl, hz, fun c hc => mkL_ok s ?_ p hc⟩
      have : ∀ l : List Nat, RepL X.K T (l.map fun c => D.str ⟨#[c]⟩) (l.map fun c => V.str ⟨#[c]⟩) := by
        intro l
        induction l with
        | nil => exact .nil
        | cons c l ih => exact .cons Rep.mk_str ih
      exact this _
    · exact p.elim
  · split at p
    · rename_i xs e
      obtain ⟨v, rfl, hv⟩ := h.one
      obtain ⟨a, us, rfl, e1, r⟩ := seqD_rep s hv e
      exact .inl ⟨a, us, rfl, e1.imp SqL.of (fun z => SqT.of z.1), fun c hc => mkL_ok s r p hc⟩
    · exact p.elim
  · exact p.elim
theorem cb_tuple (m : Bool) : CbOk X m .tuple (.type "tuple") := by
  refine ⟨_, call_tuple_of, fun T S as vs Q s h p => ?_⟩
  simp only [biD, biTuple] at p
  split at p
  · split at p
    · rename_i d xs e
      obtain ⟨v, rfl, hv⟩ := h.one
      obtain ⟨a, us, e0, e1, r⟩ := seqD_rep s hv e
      subst e0
      refine ⟨a, us, rfl, e1.imp (fun z => ⟨SqL.of z, fun c hc => (mkT_ok s r p hc).2⟩) fun z => ⟨SqT.of z.1, ?_⟩⟩
      unfold mkT at p
      split at p
      · rw [z.2] at hv
        exact p.now s _ hv
      · exact p.elim
    · exact p.elim
  · exact p.elim
theorem cb_str (m : Bool) : CbOk X m .str (.type "str") := by
  refine ⟨_, call_str_int, fun T S as vs Q s h p => ?_⟩
  simp only [biD, biStr] at p
  split at p
  · split at p
    · rename_i hz
      obtain ⟨v, rfl, hv⟩ := h.one
      rw [hv.int]
      exact ⟨_, rfl, hz, p.now s _ Rep.mk_str⟩
    · exact p.elim
  · exact p.elim
theorem cb_all (hc : X.calm = true) (m : Bool) : CbOk X m .all (.builtin "all") := by
  refine ⟨_, cr_all hc, fun T S as vs Q s h p => ?_⟩
  simp only [biD, biAll] at p
  split at p
  · split at p
    · rename_i e
      obtain ⟨v, rfl, hv⟩ := h.one
      obtain ⟨a, rfl, e1⟩ := lst_bls s hv e
      exact ⟨a, _, rfl, SqL.of e1, p.now s _ Rep.mk_bl⟩
    · exact p.elim
  · exact p.elim
theorem cb_any (hc : X.calm = true) (m : Bool) : CbOk X m .any (.builtin "any") := by
  refine ⟨_, cr_any hc, fun T S as vs Q s h p => ?_⟩
  simp only [biD, biAny] at p
  split at p
  · split at p
    · rename_i e
      obtain ⟨v, rfl, hv⟩ := h.one
      obtain ⟨a, rfl, e1⟩ := lst_bls s hv e
      exact ⟨a, _, rfl, SqL.of e1, p.now s _ Rep.mk_bl⟩
    · exact p.elim
  · exact p.elim
end
end LH

namespace LH
open PySem PySem.W L2 PySem.Spec PyProof.Rows
/-! ## repr -/
section
variable {X : Cx}
def rRepr : List V → Hp → VK → Prop := fun vs H Q => ∃ v d, vs = [v] ∧ DpR H v d ∧ d.showable = true ∧ d.depth ≤ 60 ∧ d.shown.length ≤ sizeLine ∧ Q (.str d.shown) H
theorem cr_repr (hg : X.A.guards = some []) (hu : X.A.units + 65 < cLine) (hs : ∃ o, X.base.get? sysModules = some o) : CallR X (.builtin "repr") rRepr := by
  intro pins s σ H xs us Q I r h
  obtain ⟨v, d, rfl, hd, h1, h2, h3, q⟩ := h
  obtain ⟨u, rfl, ru⟩ := vals1 r
  obtain ⟨as, hr, hn⟩ := hd.reads I ru
  cases hd with
  | non =>
    cases ru
    rw [PyData.shown_none] at q
    exact P.repr_of_none ⟨.str _, H, I.tok _, ⟨_, rfl⟩, q⟩
  | bl b =>
    cases ru
    rw [PyData.shown_bool] at q
    refine P.repr_of_bool ⟨.str _, H, I.tok _, ⟨_, rfl⟩, ?_⟩
    cases b <;> exact q
  | int i =>
    obtain ⟨t, rfl⟩ := ru
    rw [PyData.shown_int] at q
    simp only [PyData.showable, decide_eq_true_eq] at h1
    exact P.repr_of_int h1 ⟨.str _, H, I.tok _, ⟨_, rfl⟩, q⟩
  | str x =>
    obtain ⟨t, rfl⟩ := ru
    rw [PyData.shown_str] at q h3
    exact P.repr_of_str ⟨.str _, H, I.tok _, ⟨_, rfl⟩, q⟩ h3
  | lst ha _ =>
    cases ru
    refine repr_of_reads' hr h1 (fun _ hm => ?_) hg (by omega) (fun _ _ e => e) (fun h' u tk hk => ⟨.str _, H, I.kept hk, ⟨_, rfl⟩, q⟩) h3
    obtain ⟨o, ho⟩ := hs
    exact hn _ hm (I.bs _ _ ho).2
  | tup ha _ =>
    cases ru
    refine repr_of_reads' hr h1 (fun _ hm => ?_) hg (by omega) (fun _ _ e => e) (fun h' u tk hk => ⟨.str _, H, I.kept hk, ⟨_, rfl⟩, q⟩) h3
    obtain ⟨o, ho⟩ := hs
    exact hn _ hm (I.bs _ _ ho).2
  | dK ha _ _ =>
    cases ru
    refine repr_of_reads' hr h1 (fun _ hm => ?_) hg (by omega) (fun _ _ e => e) (fun h' u tk hk => ⟨.str _, H, I.kept hk, ⟨_, rfl⟩, q⟩) h3
    obtain ⟨o, ho⟩ := hs
    exact hn _ hm (I.bs _ _ ho).2
theorem cb_repr (hg : X.A.guards = some []) (hu : X.A.units + 65 < cLine) (hs : ∃ o, X.base.get? sysModules = some o) (m : Bool) : CbOk X m .repr (.builtin "repr") := by
  refine ⟨_, cr_repr hg hu hs, fun T S as vs Q s h p => ?_⟩
  simp only [biD, biRepr] at p
  split at p
  · split at p
    · rename_i x e
      split at p
      · rename_i hz
        simp only [Bool.and_eq_true, decide_eq_true_eq] at hz
        obtain ⟨v, rfl, hv⟩ := h.one
        refine ⟨v, x.py, rfl, rd_dp s hv e hz.1.1, hz.2, ?_, Nat.le_trans hz.1.2 LMAX_le, p.now s _ Rep.mk_str⟩
        have := depth_plain _ _ hz.1.1
        have : DEEP = 20 := rfl
        omega
      · exact p.elim
    · exact p.elim
  · exact p.elim
/-! ## dicts: stores -/
theorem putA_rep {K : Frag} {T : Tr} {κ : Type} [DecidableEq κ] {c : κ → KY} (hc : ∀ a b, c a = c b → a = b) {k : κ} {d : D} {v : V} (hd : Rep K T d v) {kvs : List (KY × D)} {us : List (κ × V)} (e : kvs.map (·.1) = us.map (fun p => c p.1)) (r : RepL K T (kvs.map (·.2)) (us.map (·.2))) :
    (putA (c k) d kvs).map (·.1) = (putK us k v).map (fun p => c p.1) ∧ RepL K T ((putA (c k) d kvs).map (·.2)) ((putK us k v).map (·.2)) := by
  have any : ∀ {kvs : List (KY × D)} {us : List (κ × V)}, kvs.map (·.1) = us.map (fun p => c p.1) → (kvs.any fun p => decide (p.1 = c k)) = us.any fun p => decide (p.1 = k) := by
    intro kvs
    induction kvs with
    | nil => intro us e; cases us with
      | nil => rfl
      | cons _ _ => simp at e
    | cons p kvs ih => intro us e; cases us with
      | nil => simp at e
      | cons q us =>
        simp only [List.map_cons, List.cons.injEq] at e
        simp only [List.any_cons, ih e.2, e.1]
        congr 1
        by_cases h : q.1 = k
        · rw [h]; simp
        · have h2 : ¬ c q.1 = c k := fun z => h (hc _ _ z)
          rw [decide_eq_false h, decide_eq_false h2]
  unfold putA putK
  rw [any e]
  by_cases ha : (us.any fun p => decide (p.1 = k)) = true
  · rw [if_pos ha, if_pos ha]
    clear ha any
    induction kvs generalizing us with
    | nil => cases us with
      | nil => exact ⟨rfl, .nil⟩
      | cons _ _ => simp at e
    | cons p kvs ih => cases us with
      | nil => simp at e
      | cons q us =>
        simp only [List.map_cons, List.cons.injEq] at e
        obtain ⟨v', r', e2, h1, h2⟩ := r.cons_inv
        simp only [List.map_cons, List.cons.injEq] at e2
        obtain ⟨rfl, rfl⟩ := e2
        obtain ⟨i1, i2⟩ := ih e.2 h2
        simp only [List.map_cons]
        by_cases h : q.1 = k
        · have h2 : p.1 = c k := by rw [e.1, h]
          rw [if_pos h, if_pos h2]
          exact ⟨by rw [i1]; simp [e.1], .cons hd i2⟩
        · have h3 : ¬ p.1 = c k := fun z => h (hc _ _ (e.1.symm.trans z))
          rw [if_neg h, if_neg h3]
          exact ⟨by rw [i1]; simp [e.1], .cons h1 i2⟩
  · rw [if_neg ha, if_neg ha]
    simp only [List.map_append, List.map_cons, List.map_nil]
    exact ⟨by rw [e], r.append (.cons hd .nil)⟩
theorem pairsD_rep {K : Frag} {T : Tr} : ∀ {xs : List D} {ps : List (KY × D)} {vs : List V}, RepL K T xs vs → pairsD xs = some ps →
    ∃ (as : List Addr) (kvs : List (Key × V)), vs = as.map V.ref ∧ Paired (fun p (kv : Key × V) => SqT K T.H p [kV kv.1, kv.2]) as kvs ∧ ps.map (·.1) = kvs.map (fun p => KY.k p.1) ∧ RepL K T (ps.map (·.2)) (kvs.map (·.2))
  | [], ps, _, r, e => by
    simp only [pairsD, Option.some.injEq] at e; subst e
    rw [r.nil_inv]
    exact ⟨[], [], rfl, .nil, rfl, .nil⟩
  | x :: xs, ps, _, r, e => by
    obtain ⟨v, r', rfl, h1, h2⟩ := r.cons_inv
    unfold pairsD at e
    split at e
    · rename_i h; cases h
    · rename_i a b rr hx
      injection hx with hx1 hx2
      subst hx1 hx2
      split at e
      · rename_i k kvs ek er
        split at e
        · cases e
        · rename_i ht
          cases e
          obtain ⟨p, us, rfl, _, ep, ru⟩ := h1.tup
          obtain ⟨va, vb, rfl, ha, hb⟩ := ru.two
          obtain ⟨as, kk, rfl, i1, i2, i3⟩ := pairsD_rep h2 er
          rcases key_rep ha ek with ⟨x, rfl, rfl⟩ | ⟨ks, q, rfl, _, _⟩
          · exact ⟨p :: as, (x, vb) :: kk, rfl, .cons (SqT.of ep) i1, by simp [i2], .cons hb i3⟩
          · exact absurd rfl ht
      · cases e
    · cases e
theorem mergeA_rep {K : Frag} {T : Tr} : ∀ {ps acc : List (KY × D)} {kvs us : List (Key × V)}, acc.map (·.1) = us.map (fun p => KY.k p.1) → RepL K T (acc.map (·.2)) (us.map (·.2)) → ps.map (·.1) = kvs.map (fun p => KY.k p.1) → RepL K T (ps.map (·.2)) (kvs.map (·.2)) →
    (mergeA acc ps).map (·.1) = (mergeK us kvs).map (fun p => KY.k p.1) ∧ RepL K T ((mergeA acc ps).map (·.2)) ((mergeK us kvs).map (·.2))
  | [], acc, kvs, us, e1, r1, e2, _ => by
    cases kvs with
    | nil => exact ⟨e1, r1⟩
    | cons _ _ => simp at e2
  | p :: ps, acc, kvs, us, e1, r1, e2, r2 => by
    cases kvs with
    | nil => simp at e2
    | cons q kvs =>
      simp only [List.map_cons, List.cons.injEq] at e2
      obtain ⟨v', r', e3, h1, h2⟩ := r2.cons_inv
      simp only [List.map_cons, List.cons.injEq] at e3
      obtain ⟨rfl, rfl⟩ := e3
      obtain ⟨i1, i2⟩ := putA_rep (c := KY.k) (k := q.1) (fun _ _ z => KY.k.inj z) h1 e1 r1
      have := mergeA_rep i1 i2 e2.2 h2
      simp only [mergeA, mergeK, List.foldl_cons] at this ⊢
      rw [e2.1]
      exact this
theorem cb_dict (hc : X.calm = true) (m : Bool) : CbOk X m .dict (.type "dict") := by
  refine ⟨_, call_dictP hc, fun T S as vs Q s h p => ?_⟩
  simp only [biD, biDict] at p
  split at p
  · split at p
    · rename_i xs ps e
      split at p
      · obtain ⟨v, rfl, hv⟩ := h.one
        obtain ⟨a, us, rfl, _, ea, r⟩ := hv.lst
        obtain ⟨bs, kvs, rfl, i1, i2, i3⟩ := pairsD_rep r e
        refine ⟨a, bs, kvs, rfl, SqL.of ea, i1, fun c hc => ?_⟩
        obtain ⟨j1, j2⟩ := mergeA_rep (acc := []) (us := []) rfl .nil i2 i3
        exact mkD_ok s (.inl ⟨rfl, _, rfl, j1, rfl⟩) j2 p hc
      · exact p.elim
    · exact p.elim
  · exact p.elim
end
end LH

namespace LH
open PySem PySem.W L2 PySem.Spec PyProof.Rows
/-! ## isinstance -/
def Ty.name : Ty → String
  | .int => "int"
  | .bool => "bool"
  | .str => "str"
  | .list => "list"
  | .tuple => "tuple"
  | .dict => "dict"
theorem kit_tys (a b : Ty) : kitB a.name b.name = some (a.le b) := by cases a <;> cases b <;> decide +kernel
theorem kit_non (b : Ty) : kitB "NoneType" b.name = some false := by cases b <;> decide +kernel
section
variable {K : Frag} {T : Tr} {S : Store}
/-- a value's type -/
def tyN (S : Store) : D → Option String
  | .non => some "NoneType"
  | d => (tyD S d).map Ty.name
theorem tyX_rep (s : SOk K T S) {d : D} {v : V} {n : String} (h : Rep K T d v) (e : tyN S d = some n) : TyX K T.H v (.type n) := by
  cases d with
  | exc k d => cases e
  | non => cases e; rw [h.non]; exact .base .non
  | bl b => cases e; rw [h.bl]; exact .base (.bl b)
  | int b => cases e; rw [h.int]; exact .base (.int b)
  | str b => cases e; rw [h.str]; exact .base (.str b)
  | lst xs => cases e; obtain ⟨a, vs, rfl, _, e1, _⟩ := h.lst; exact .base (.lst e1)
  | tup xs => cases e; obtain ⟨a, vs, rfl, _, e1, _⟩ := h.tup; exact .base (.tup e1)
  | dct t ks xs => cases t with
    | true => cases e
    | false =>
      cases e
      obtain ⟨a, u, vs, rfl, _, e1, k, _⟩ := h.dct
      rcases k with ⟨_, kv, rfl, _⟩ | ⟨z, _⟩
      · rcases e1 with e1 | ⟨o, e1⟩
        · exact .base (.dK e1)
        · exact .fDict e1
      · cases z
  | ref m =>
    simp only [tyN, tyD] at e
    rw [h.ref.2]
    split at e
    · rename_i hs
      cases e
      obtain ⟨_, _, us, e1, _⟩ := s.ob _ _ hs
      exact .base (.lst e1)
    · rename_i hs
      cases e
      obtain ⟨_, _, u, us, e1, k, _⟩ := s.ob _ _ hs
      rcases k with ⟨_, kv, rfl, _⟩ | ⟨_, kv, rfl, _⟩
      · exact .base (.dK e1)
      · exact .base (.dT e1)
    · rename_i hs
      cases e
      obtain ⟨_, od, u, us, e1, k, _⟩ := s.ob _ _ hs
      rcases k with ⟨_, kv, rfl, _⟩ | ⟨z, _⟩
      · exact .fDict e1
      · cases z
    · cases e
  | fn n => cases e
  | scr ns => cases e
theorem isiD_ty {ts : List Ty} {d : D} {k : Bool} (e : isiD S ts d = some k) : ∃ n, tyN S d = some n ∧ kitAny K (.type n) (ts.map fun t => Value.type t.name) = some k := by
  have any : ∀ (n : String) (f : Ty → Bool), (∀ t, kitB n (Ty.name t) = some (f t)) → ∀ ts : List Ty, kitAny K (.type n) (ts.map fun t => Value.type t.name) = some (ts.any f) := by
    intro n f hf ts
    induction ts with
    | nil => rfl
    | cons t ts ih =>
      rw [List.map_cons, List.any_cons]
      unfold kitAny
      rw [kit_ty (hf t)]
      cases f t with
      | true => rfl
      | false => exact ih
  cases d with
  | non =>
    cases e
    refine ⟨"NoneType", rfl, ?_⟩
    rw [any "NoneType" (fun _ => false) kit_non ts]
    congr 1
    induction ts with
    | nil => rfl
    | cons _ _ ih => simp [ih]
  | _ =>
    simp only [isiD, Option.map_eq_some_iff] at e
    obtain ⟨t, e1, rfl⟩ := e
    refine ⟨t.name, by simp only [tyN, e1, Option.map_some], any t.name (fun u => t.le u) (kit_tys t) ts⟩
end
section
variable {X : Cx} {a b e : Expr} {es : List Expr} {ma mb : Sem1 D} {ml : Sem1 (List D)} {pos : Pos}
/-- the names of types -/
def TyNames (X : Cx) (es : List Expr) (ts : List Ty) : Prop := Paired (fun e t => PE X e (tC (.ty (Ty.name t)))) es ts
theorem tyNames_args : ∀ {es : List Expr} {ts : List Ty}, TyNames X es ts → (∀ e ∈ es, ∀ r, starEach (e :: r) X.env = (false, eval e X.env) :: starEach r X.env) → PA X es (fun _ H Q => Q (ts.map fun t => V.ty t.name) H)
  | _, _, .nil, _ => ⟨fun pos pins s σ H Q I h => pa_nil.run pos pins s σ H Q I h⟩
  | e :: es, t :: ts, .cons h1 h2, hs => by
    refine pa_weak (pa_cons h1 (tyNames_args h2 fun e he => hs e (List.mem_cons_of_mem _ he)) (hs e List.mem_cons_self _)) ?_
    intro σ H Q q
    exact q
theorem okE_isi1 {p : Pos} {t : Ty} (hg : Gl X "isinstance") (hm : X.mg "isinstance" = none) (ha : OkE X a ma) (hb : PE X b (tC (.ty t.name))) (hs : starEach (a :: [b]) X.env = (false, eval a X.env) :: starEach [b] X.env) (hs2 : starEach (b :: []) X.env = (false, eval b X.env) :: starEach [] X.env) :
    OkE X (.Call (.Name "isinstance" p) [a, b] [] pos) (fun ρ S => (ma ρ S).bind fun x S1 => .opt ((isiD S1 [t] x).map .bl) S1) := by
  refine pe_weak (pe_callB call_isi hg hm (by decide +kernel) (pa_cons ha (pa_cons hb pa_nil hs2) hs) (by decide) (by decide) hs (by rw [hs2]; rfl)) ?_
  rintro σ H Q ⟨T, ρ, S, rfl, s, re, p⟩
  refine .mk s re (p.bind.imp fun d S1 T1 e1 s1 p1 v hv => ?_)
  obtain ⟨z, e, p2⟩ := p1.opt
  simp only [Option.map_eq_some_iff] at e
  obtain ⟨k, e, rfl⟩ := e
  obtain ⟨n, h1, h2⟩ := isiD_ty (K := X.K) e
  refine ⟨v, .ty t.name, _, _, k, rfl, .ty _, tyX_rep s1 hv h1, ?_, p2.now s1 _ Rep.mk_bl⟩
  have h3 : kitAny X.K (.type n) [.type t.name] = some k := h2
  unfold kitAny at h3
  split at h3
  · rename_i h4; cases h3; exact h4
  · rename_i h4; unfold kitAny at h3; cases h3; exact h4
  · cases h3
theorem clsVs : ∀ ts : List Ty, Paired ClsV (ts.map fun t => V.ty t.name) (ts.map fun t => Value.type t.name)
  | [] => .nil
  | _ :: ts => .cons (.ty _) (clsVs ts)
theorem okE_isiT {p p2 : Pos} {kk : Nat} {ts : List Ty} (hg : Gl X "isinstance") (hm : X.mg "isinstance" = none) (ha : OkE X a ma) (hb : TyNames X es ts) (hs : starEach (a :: [.Tuple es kk p2]) X.env = (false, eval a X.env) :: starEach [.Tuple es kk p2] X.env)
    (hss : ∀ e ∈ es, ∀ r, starEach (e :: r) X.env = (false, eval e X.env) :: starEach r X.env) (hl : ts.length ≤ LMAX) :
    OkE X (.Call (.Name "isinstance" p) [a, .Tuple es kk p2] [] pos) (fun ρ S => (ma ρ S).bind fun x S1 => .opt ((isiD S1 ts x).map .bl) S1) := by
  refine pe_weak (pe_callB call_isiT hg hm (by decide +kernel) (pa_cons ha (pa_cons (pe_tup (tyNames_args hb hss)) pa_nil rfl) hs) (by decide) (by decide) hs rfl) ?_
  rintro σ H Q ⟨T, ρ, S, rfl, s, re, p⟩
  refine .mk s re (p.bind.imp fun d S1 T1 e1 s1 p1 v hv => ⟨by rw [List.length_map]; exact Nat.le_trans hl LMAX_le, fun c hc => ?_⟩)
  obtain ⟨z, e, p2⟩ := p1.opt
  simp only [Option.map_eq_some_iff] at e
  obtain ⟨k, e, rfl⟩ := e
  obtain ⟨n, h1, h2⟩ := isiD_ty (K := X.K) e
  have x2 := ext_putF (o := HO.tup (ts.map fun t => V.ty t.name)) s1 hc
  have s2 := sok_putF (o := HO.tup (ts.map fun t => V.ty t.name)) s1 hc
  refine ⟨v, c, _, _, _, k, rfl, upd_same, ?_, tyX_rep s2 (hv.mono x2) h1, h2, p2 _ x2 s2 _ Rep.mk_bl⟩
  exact clsVs ts
/-! ## list(range(..)) -/
theorem rngD_rep {K : Frag} {T : Tr} (i j : Int) : RepL K T (rngD i j) (rgV i j) := by
  unfold rngD rgV
  generalize (j - i).toNat = n
  generalize List.range n = r
  induction r with
  | nil => exact .nil
  | cons x r ih => exact .cons Rep.mk_int ih
theorem rngD_length (i j : Int) : (rngD i j).length = (j - i).toNat := by simp [rngD]
theorem okE_lrng1 {m : Bool} {p p2 pos2 : Pos} (hc : X.calm = true) (hg : Gl X "list") (hm : X.mg "list" = none) (hg2 : Gl X "range") (hm2 : X.mg "range" = none) (ha : OkE X a ma) (hs : starEach (a :: []) X.env = (false, eval a X.env) :: starEach [] X.env) :
    OkE X (.Call (.Name "list" p) [.Call (.Name "range" p2) [a] [] pos2] [] pos) (fun ρ S => (ma ρ S).bind fun x S1 => match x with
    | .int j => if okR j then mkL m (rngD 0 j) S1 else .no
    | _ => .no) := by
  refine pe_weak (pe_listRg hc hg hm (prg_1 hg2 hm2 ha hs) rfl) ?_
  rintro σ H Q ⟨T, ρ, S, rfl, s, re, p⟩
  refine .mk s re (p.bind.imp fun d S1 T1 e1 s1 p1 v hv => ?_)
  split at p1
  · rename_i j
    split at p1
    · rename_i hz
      unfold okR at hz
      have hz := of_decide_eq_true hz
      have hl := mkL_len p1
      rw [rngD_length] at hl
      refine ⟨j, hv.int, ⟨by decide, by decide, hz.1, hz.2, Nat.le_trans hl (by decide)⟩, fun q hq => mkL_ok s1 (rngD_rep 0 j) p1 hq⟩
    · exact p1.elim
  · exact p1.elim
theorem okE_lrng2 {m : Bool} {p p2 pos2 : Pos} (hc : X.calm = true) (hg : Gl X "list") (hm : X.mg "list" = none) (hg2 : Gl X "range") (hm2 : X.mg "range" = none) (ha : OkE X a ma) (hb : OkE X b mb) (hs : starEach (a :: [b]) X.env = (false, eval a X.env) :: starEach [b] X.env) (hs2 : starEach (b :: []) X.env = (false, eval b X.env) :: starEach [] X.env) :
    OkE X (.Call (.Name "list" p) [.Call (.Name "range" p2) [a, b] [] pos2] [] pos) (fun ρ S => (ma ρ S).bind fun x S1 => (mb ρ S1).bind fun y S2 => match x, y with
    | .int i, .int j => if okR i && okR j then mkL m (rngD i j) S2 else .no
    | _, _ => .no) := by
  refine pe_weak (pe_listRg hc hg hm (prg_2 hg2 hm2 ha hb hs hs2 (by rw [hs2]; rfl)) rfl) ?_
  rintro σ H Q ⟨T, ρ, S, rfl, s, re, p⟩
  refine .mk s re (p.bind.imp fun d S1 T1 e1 s1 p1 v hv => .mk s1 (re.mono e1) (p1.bind.imp fun d2 S2 T2 e2 s2 p2 v2 hv2 => ?_))
  split at p2
  · rename_i i j
    split at p2
    · rename_i hz
      unfold okR at hz
      rw [Bool.and_eq_true, decide_eq_true_eq, decide_eq_true_eq] at hz
      have hl := mkL_len p2
      rw [rngD_length] at hl
      refine ⟨i, j, hv.int, hv2.int, ⟨hz.1.1, hz.1.2, hz.2.1, hz.2.2, Nat.le_trans hl (by decide)⟩, fun q hq => mkL_ok s2 (rngD_rep i j) p2 hq⟩
    · exact p2.elim
  · exact p2.elim
end
end LH

namespace LS
open PySem PySem.Spec PyProof.Rows L2
/-! ## set(list of ints), its table told -/
section
variable {prog : Program} {w : World} {A : Around} {R : Result → Shared → Prop} {I : Addr} {fp wr : List Addr} {G : Array GenState → Array GenState → Prop} {n : Nat} {P : Nat → Value → Prop} {St : Nat → Shared → Prop}
theorem setR_re {h : Heap} {a : Addr} {S S' : Int → Bool} {n n' : Nat} (r : SetR w h a S n) (e : ∀ k, S k = S' k) (en : n = n') : SetR w h a S' n' := by
  have : S = S' := funext e
  subst this; subst en; exact r
theorem update_loopR (W : WalksS prog w A.in1 I fp wr G n P St) (S : Addr) (hSf : S ∉ fp)
    (val : Nat → Int) (hval : ∀ i v, P i v → ∃ t, v = .int (val i) t) (hb : n + 1 < scanBound) :
    ∀ (k i : Nat) (s : Shared), n - i = k → i ≤ n → St i s →
      SetR w s.heap S (fun k' => (firstMet val i).any (· == k')) (firstMet val i).length →
      (∀ s', Moved (S :: wr) G s s' → SetR w s'.heap S (fun k' => (firstMet val n).any (· == k')) (firstMet val n).length → R (.ok (.ret .none)) s') →
      codeAny (model prog w) A (.builtin "set.update.loop" ⟨[.ref S, .ref I], []⟩) R s := by
  have hSw : S ∉ wr := fun h => hSf (W.sub _ h)
  have hsub : ∀ b ∈ wr, b ∈ S :: wr := fun b hb => List.mem_cons_of_mem _ hb
  intro k
  induction k with
  | zero =>
    intro i s hk hi hst hS hR
    have hin : i = n := by omega
    subst hin
    refine codeAny_builtin F.entry_set_update_loop ?_
    rw [Around.under_plainId F.plain_set_update_loop _]
    show wpAny _ A.in1 (pyNext (.ref I) >>= _) _ _ s
    refine wpAny_bind (W.done s _ _ hst fun s' hm => ?_)
    show wpAny _ A.in1 (ret Value.none) _ _ s'
    exact wpAny_pure (hR s' (hm.mono hsub) (hS.at fun o ho => hm.heap S _ hSw ho))
  | succ k ih =>
    intro i s hk hi hst hS hR
    have hlt : i < n := by omega
    refine codeAny_builtin F.entry_set_update_loop ?_
    rw [Around.under_plainId F.plain_set_update_loop _]
    show wpAny _ A.in1 (pyNext (.ref I) >>= _) _ _ s
    refine wpAny_bind (W.item i s _ _ hlt hst fun v s' hP hst' hm => ?_)
    obtain ⟨t, rfl⟩ := hval i v hP
    have hS' : SetR w s'.heap S (fun k' => (firstMet val i).any (· == k')) (firstMet val i).length := hS.at fun o ho => hm.heap S _ hSw ho
    show wpAny _ A.in1 (holding [Value.int (val i) t] (setAdd S (.int (val i) t)) >>= _) _ _ s'
    refine wpAny_bind (wpAny_holding ?_)
    unfold setAdd
    refine wpAny_holding ?_
    refine wpAny_bind ((intKind prog w).pyHash (k := val i) (intKind_is _ _ _ _) ?_)
    have hroom : (firstMet val i).length + 1 < scanBound := by have := firstMet_length_le val i; omega
    refine setR_add_hashed (P := prog) (s := { s' with toks := s'.toks + 1 }) hS' hroom fun h' hsb hS2 => ?_
    have hSi : SetR w h' S (fun k' => (firstMet val (i + 1)).any (· == k')) (firstMet val (i + 1)).length :=
      setR_re hS2 (fun k' => by rw [firstMet_succ, step_any]) (by rw [firstMet_succ, step_length])
    refine wpAny_pure ⟨plainId_quiet F.plain_set_update_loop _, ih (i + 1) _ (by omega) hlt (W.frame _ s' _ _ hst' (Nat.le_succ _) fun b hb o e => ?_) hSi fun s'' hm'' hS'' => ?_⟩
    · rw [hsb.2 b (fun h : b = S => hSf (by rw [← h]; exact hb))]; exact e
    · refine hR s'' (Moved.trans W.gtrans ((hm.mono hsub).then_heap (Nat.le_succ _) fun b o hb e => ?_) hm'') hS''
      rw [hsb.2 b (fun h : b = S => hb (by rw [h]; exact List.mem_cons_self))]; exact e
end
section
variable {prog : Program} {w : World} {A : Around} {E : Value → Shared → Prop} {s : Shared}
theorem code_new1 (a : Value) {Q₁ : Value → Shared → Prop}
    (h : Q₁ (.ref s.heap.objs.size) { s with heap := s.heap.push { cls := .type "set", dict := none, data := .set #[] 0 (.fresh 0 0 (!w.params.followText "set-order")) } }) :
    codeAny (model prog w) A (.call (.builtin "set.__new__") ⟨[.type "set", a], []⟩) (wants Q₁ E) s := by
  refine codeAny_of_tree ?_
  show wpAny _ A.in1 (do checkBuiltinCall "set.__new__" ⟨[.type "set", a], []⟩; again (.builtin "set.__new__" ⟨[.type "set", a], []⟩)) _ _ s
  refine wpAny_bind (wpAny_of_eq (F.newCall_set_1 a) (wpAny_pure ⟨plainId_quiet F.plain_set_new _, codeAny_builtin F.entry_set_new ?_⟩))
  rw [Around.under_plainId F.plain_set_new _]
  unfold Builtin.«set.__new__» Builtin.Frozenset.newClass
  have hsub := sub_set_self
  obtain ⟨hp, g, d, tk, os⟩ := s
  dsimp only
  wp_walk
  refine wpAny_askSetting (wpAny_pure ?_)
  dsimp only
  simp only [newObj]
  refine wpAny_bind (wpAny_alloc (wpAny_pure ?_))
  exact wpAny_pure h
set_option maxHeartbeats 3200000 in
theorem call_set_listR {l : Addr} {items : Array Value} {ns : List Int} {Q : Value → Shared → Prop}
    (hh : A.handled = none) (hl : s.heap.IsList l items) (hi : IntsAre items.toList ns) (hb : items.size + 1 < scanBound)
    (h : ∀ (h' : Heap) (tk : Nat), SetR w h' s.heap.objs.size (fun k' => (firstMet (fun i => ns.getD i 0) items.size).any (· == k')) (firstMet (fun i => ns.getD i 0) items.size).length →
      (∀ b o, b < s.heap.objs.size → s.heap.get? b = some o → h'.get? b = some o) → Q (.ref s.heap.objs.size) { s with heap := h', toks := tk }) :
    wpAny (model prog w) A (call (.type "set") [.ref l]) Q E s := by
  obtain ⟨c, tl, hmro⟩ := F.called_set.mro
  have hmade := F.called_set.made
  have hsub := F.called_set.sub
  refine wpAny_call (codeAny_of_tree ?_)
  show wpAny _ _ (callAny (.type "set") _) _ _ _
  refine wpAny_pure ⟨Code.quiet_builtin _ (by decide +kernel), codeAny_builtin F.entry_type_call ?_⟩
  rw [Around.under_plain (weight_type_call_type "set" [.ref l] []) rfl]
  have h1 := F.called_set.notType
  have h2 := F.called_set.canCreate
  have hct := F.typeCall_set_1 (.ref l)
  have hfr := setR_fresh (h := s.heap) w
  generalize hL : (!w.params.followText "set-order") = led at hfr
  repeat (any_goals (first | assumption | wp_step))
  refine codeAny_mono (code_new1 (.ref l) (E := E) (Q₁ := fun obj s₁ => obj = .ref s.heap.objs.size ∧ s₁ = { s with heap := s.heap.push { cls := .type "set", dict := none, data := .set #[] 0 (.fresh 0 0 led) } }) ⟨rfl, by rw [hL]⟩) fun r s₁ hr => ?_
  cases r with
  | error e => exact hr
  | ok fl =>
    cases fl with
    | ret obj =>
      obtain ⟨rfl, rfl⟩ := hr
      have hS : (s.heap.push { cls := .type "set", dict := none, data := .set #[] 0 (.fresh 0 0 led) }).get? s.heap.objs.size = some { cls := .type "set", dict := none, data := .set #[] 0 (.fresh 0 0 led) } := Heap.get?_push_size _ rfl
      have hT : Shared.TypeIs { s with heap := s.heap.push { cls := .type "set", dict := none, data := .set #[] 0 (.fresh 0 0 led) } } (.ref s.heap.objs.size) "set" := ⟨_, hS, rfl⟩
      have hli := F.called_set.init.lookup
      have hbi := F.called_set.init.bind (.ref s.heap.objs.size)
      repeat (any_goals (first | assumption | wp_step))
      refine codeAny_mono (codeAny_call_builtin (R := wants (fun r s₂ => r = .none ∧ ∃ h' tk, s₂ = { s with heap := h', toks := tk } ∧
          SetR w h' s.heap.objs.size (fun k' => (firstMet (fun i => ns.getD i 0) items.size).any (· == k')) (firstMet (fun i => ns.getD i 0) items.size).length ∧
          (∀ b o, b < s.heap.objs.size → s.heap.get? b = some o → h'.get? b = some o)) E) F.called_set.init.plain F.entry_set_init (check_set_init_1 hT ?_)) fun r₂ s₂ hr₂ => ?_
      · obtain ⟨ol, hol, hcl, nl, hdl⟩ := hl
        obtain ⟨ocls, odict, odata, oslots⟩ := ol
        simp only at hcl hdl
        subst hcl; subst hdl
        have hol' : (s.heap.push { cls := .type "set", dict := none, data := .set #[] 0 (.fresh 0 0 led) }).get? l = some { cls := .type "list", dict := odict, data := .seq items nl, slots := oslots } := Heap.get?_push_of_some _ hol
        have hsls := F.sub_list_set
        have hslf := F.sub_list_frozenset
        have hne : (Value.type "list" == Value.type "dict") = false := by decide
        have hl1 : (s.heap.push { cls := .type "set", dict := none, data := .set #[] 0 (.fresh 0 0 led) }).IsList l items := ⟨_, hol', rfl, nl, rfl⟩
        unfold Builtin.«set.__init__» noKeywords Builtin.Frozenset.updateFrom
        generalize hPI : pyIter = PI
        wp_walk
        subst hPI
        refine wpAny_pyIter_list hl1 ?_
        refine wpAny_bind (wpAny_runValue ?_)
        have hlS : l < s.heap.objs.size := Heap.lt_size hol
        have hh3 : A.in1.in1.in1.handled = none := by simp [hh]
        have hneI : l ≠ (s.heap.push { cls := .type "set", dict := none, data := .set #[] 0 (.fresh 0 0 led) }).objs.size := by
          rw [Heap.size_push]; exact Nat.ne_of_lt (Nat.lt_succ_of_lt hlS)
        have hSf : s.heap.objs.size ∉ [(s.heap.push { cls := .type "set", dict := none, data := .set #[] 0 (.fresh 0 0 led) }).objs.size, l] := by
          rw [Heap.size_push]; simp only [List.mem_cons, List.mem_singleton, List.not_mem_nil, or_false, not_or]
          exact ⟨Nat.ne_of_lt (Nat.lt_succ_self _), Nat.ne_of_gt hlS⟩
        have hval : ∀ (i : Nat) (v : Value), items[i]? = some v → ∃ t, v = .int ((fun i => ns.getD i 0) i) t := fun i v hv =>
          IntsAre.int_at hi i v (by rw [Array.getElem?_toList]; exact hv)
        refine update_loopR ((Walks.list hh3 _ l hneI items).toS) s.heap.objs.size
          hSf (fun i => ns.getD i 0) hval hb (items.size - 0) 0 _ (by omega) (Nat.zero_le _)
          ⟨⟨_, Heap.get?_push_size _ rfl, rfl, rfl⟩, (hl1.push _)⟩ ?hS0 ?hR
        case hS0 =>
          exact setR_re (hfr.at fun o ho => Heap.get?_push_of_some _ ho) (fun _ => rfl) rfl
        case hR =>
          intro s' hm hS'
          obtain ⟨h', g', d', tk', os'⟩ := s'
          have eg : g' = s.gens := hm.gens
          have ed : d' = s.drawn := hm.drawn
          have eo : os' = s.os := hm.os
          subst eg; subst ed; subst eo
          show wpAny _ _ _ _ _ _
          refine wpAny_pure ?_
          show wpAny _ _ (ret Value.none) _ _ _
          refine wpAny_pure ⟨rfl, h', tk', rfl, hS', fun b o hb e => ?_⟩
          have hb1 : b ≠ s.heap.objs.size := Nat.ne_of_lt hb
          have hb2 : b ≠ (s.heap.push { cls := .type "set", dict := none, data := .set #[] 0 (.fresh 0 0 led) }).objs.size := by
            rw [Heap.size_push]; exact Nat.ne_of_lt (Nat.lt_succ_of_lt hb)
          exact hm.heap b o (by simp only [List.mem_cons, List.mem_singleton, List.not_mem_nil, or_false, not_or]; exact ⟨hb1, hb2⟩) (Heap.get?_push_of_some _ (Heap.get?_push_of_some _ e))
      · cases r₂ with
        | error e => exact hr₂
        | ok fl₂ =>
          cases fl₂ with
          | ret r =>
            obtain ⟨rfl, h', tk, rfl, hS', hk'⟩ := hr₂
            repeat (any_goals (first | assumption | wp_step))
            exact h _ _ hS' hk'
          | _ => exact hr₂.elim
    | _ => exact hr.elim
end
/-! ### what stands once -/
theorem mem_dd {x : Int} : ∀ {l : List Int}, x ∈ LH.ddI l ↔ x ∈ l
  | [] => Iff.rfl
  | y :: r => by
    unfold LH.ddI
    split
    · rename_i h
      rw [mem_dd, List.mem_cons]
      exact ⟨.inr, fun q => q.elim (fun e => e ▸ h) id⟩
    · rw [List.mem_cons, mem_dd, List.mem_cons]
theorem nodup_dd : ∀ l : List Int, (LH.ddI l).Nodup
  | [] => List.nodup_nil
  | y :: r => by
    unfold LH.ddI
    split
    · exact nodup_dd r
    · rename_i h
      exact List.nodup_cons.mpr ⟨fun q => h (mem_dd.mp q), nodup_dd r⟩
theorem firstMet_nod (val : Nat → Int) : ∀ i, (firstMet val i).Nodup
  | 0 => by rw [firstMet_zero]; exact List.nodup_nil
  | i + 1 => by
    rw [firstMet_succ]
    unfold step_dedup
    split
    · exact firstMet_nod val i
    · rename_i h
      rw [List.nodup_append]
      refine ⟨firstMet_nod val i, by simp, fun a ha b hb e => h ?_⟩
      have hb : b = val i := by simpa using hb
      rw [List.any_eq_true]
      exact ⟨a, ha, by rw [e, hb]; exact beq_self_eq_true _⟩
theorem any_iff {l : List Int} {k : Int} : l.any (· == k) = true ↔ k ∈ l := by
  rw [List.any_eq_true]
  exact ⟨fun ⟨x, h, e⟩ => eq_of_beq e ▸ h, fun h => ⟨k, h, beq_self_eq_true _⟩⟩
theorem firstMet_mem (ns : List Int) (k : Int) : (firstMet (fun i => ns.getD i 0) ns.length).any (· == k) = true ↔ k ∈ ns := by
  rw [firstMet_any, any_iff]
  have e : (List.range ns.length).map (fun i => ns.getD i 0) = ns := by
    refine List.ext_getElem (by simp) fun i h1 h2 => ?_
    rw [List.getElem_map, List.getElem_range, List.getD_eq_getElem?_getD, List.getElem?_eq_getElem h2]
    rfl
  rw [e]
theorem firstMet_len (ns : List Int) : (firstMet (fun i => ns.getD i 0) ns.length).length = (LH.ddI ns).length := by
  refine List.Perm.length_eq ((List.perm_ext_iff_of_nodup (firstMet_nod _ _) (nodup_dd ns)).mpr fun k => ?_)
  rw [← any_iff, firstMet_mem, mem_dd]
def tLenSet (K : PySem.W.Frag) (ta : TE) : TE := fun σ H Q => ta σ H fun x H1 => ∃ (l : Addr) (ns : List Int), x = .ref l ∧ SqL K H1 l (ns.map V.int) ∧ ns.length ≤ 4000 ∧ Q (.int ((LH.ddI ns).length : Nat)) H1
def tSortSet (K : PySem.W.Frag) (ta : TE) : TE := fun σ H Q => ta σ H fun x H1 => ∃ (l : Addr) (ns : List Int), x = .ref l ∧ SqL K H1 l (ns.map V.int) ∧ ns.length ≤ 4000 ∧ (LH.ddI ns).length < 64 ∧
  ∀ (ks : List Int) (p : Addr), ks.Pairwise (· < ·) → (∀ k : Int, k ∈ ks ↔ k ∈ ns) → H1 p = none → Q (.ref p) (upd H1 p (.lst (ks.map V.int)))
theorem dd_le : ∀ l : List Int, (LH.ddI l).length ≤ l.length
  | [] => Nat.le_refl _
  | x :: r => by
    unfold LH.ddI
    have := dd_le r
    split <;> simp only [List.length_cons] <;> omega
theorem pe_lenSet {X : Cx} {a : Expr} {ta : TE} {p p2 q pos : Pos} (hg : Gl X "len") (hm : X.mg "len" = none) (hg2 : Gl X "set") (hm2 : X.mg "set" = none) (ha : PE X a ta) (hc : X.calm = true)
    (na : starEach [a] X.env = (false, eval a X.env) :: starEach [] X.env) : PE X (.Call (.Name "len" p) [.Call (.Name "set" p2) [a] [] q] [] pos) (tLenSet X.K ta) := by
  refine ⟨fun pins s σ H Q I h => ?_⟩
  refine Call_ (ld_blt I hg hm boot_len ?_)
  refine PyProof.Rows.callWith_builtin1 (PyProof.Rows.args_cons ?_ rfl) rfl rfl
  refine Call_ (ld_blt I hg2 hm2 boot_set ?_)
  refine PyProof.Rows.callWith_type1 (PyProof.Rows.args_cons (thn (ha.run pins s σ H _ I h) fun v s1 ⟨x, H1, I1, r1, q1⟩ => PyProof.Rows.args_nil ?_) na) na rfl
  obtain ⟨l, ns, rfl, hq, hl, q1⟩ := q1
  cases r1
  obtain ⟨its, r, pl, hz⟩ := I1.list hq
  have hlen : its.toArray.size = ns.length := by rw [List.size_toArray, ← r.length, List.length_map]
  refine call_set_list (I1.ok.hd hc) pl.isList (by simpa using RZ.intsAre_vals r) (by rw [hlen]; unfold scanBound; omega) fun h' tk hS hk => ?_
  refine PyProof.Rows.args_nil ?_
  rw [hlen, firstMet_len] at hS
  obtain ⟨o, es, ep, t, ho, hex, hd, _, _, _, hf, hn⟩ := hS
  have I2 : Inv X pins σ H1 { s1 with heap := h', toks := tk } := I1.kept fun b o e => hk b o (Heap.lt_size e) e
  have := dd_le ns
  exact call_len_set ho hex hd hf (by rw [hn] <;> omega) ⟨.int (LH.ddI ns).length, H1, I2.tok _, ⟨_, by rw [hn]⟩, q1⟩
theorem pe_sortSet {X : Cx} {a : Expr} {ta : TE} {p p2 q pos : Pos} (hg : Gl X "sorted") (hm : X.mg "sorted" = none) (hg2 : Gl X "set") (hm2 : X.mg "set" = none) (ha : PE X a ta) (hc : X.calm = true)
    (na : starEach [a] X.env = (false, eval a X.env) :: starEach [] X.env) : PE X (.Call (.Name "sorted" p) [.Call (.Name "set" p2) [a] [] q] [] pos) (tSortSet X.K ta) := by
  refine ⟨fun pins s σ H Q I h => ?_⟩
  refine Call_ (ld_blt I hg hm boot_sorted ?_)
  refine PyProof.Rows.callWith_builtin1 (PyProof.Rows.args_cons ?_ rfl) rfl rfl
  refine Call_ (ld_blt I hg2 hm2 boot_set ?_)
  refine PyProof.Rows.callWith_type1 (PyProof.Rows.args_cons (thn (ha.run pins s σ H _ I h) fun v s1 ⟨x, H1, I1, r1, q1⟩ => PyProof.Rows.args_nil ?_) na) na rfl
  obtain ⟨l, ns, rfl, hq, hl, h64, q1⟩ := q1
  cases r1
  obtain ⟨its, r, pl, hz⟩ := I1.list hq
  have hlen : its.toArray.size = ns.length := by rw [List.size_toArray, ← r.length, List.length_map]
  refine call_set_listR (I1.ok.hd hc) pl.isList (by simpa using RZ.intsAre_vals r) (by rw [hlen]; unfold scanBound; omega) fun h' tk hS hk => ?_
  refine PyProof.Rows.args_nil ?_
  rw [hlen, firstMet_len] at hS
  have I2 : Inv X pins σ H1 { s1 with heap := h', toks := tk } := I1.kept fun b o e => hk b o (Heap.lt_size e) e
  refine sorted_set hS (I2.ok.hd hc) h64 fun s' p out c ks k g o hp hg hi hs hm hl' => ?_
  have hlen2 : (ks.map V.int).length ≤ sizeLine := by rw [List.length_map, hl', sizeLine_eq]; omega
  have hn : H1 p = none := I2.hok.fresh hp
  have J : Inv X pins σ (upd H1 p (.lst (ks.map V.int))) { ({ s1 with heap := h', toks := tk } : Shared) with heap := s'.heap, gens := s'.gens, drawn := s'.drawn, toks := s'.toks } :=
    I2.call (ch := []) (Un.laid k hp hn) (I2.hok.laid k hp ⟨hlen2, out.toList, c, vals_of_ints hi, hg⟩) (by rw [g]; exact I2.bare) (fun _ z => nomatch z)
  have e : s' = { ({ s1 with heap := h', toks := tk } : Shared) with heap := s'.heap, gens := s'.gens, drawn := s'.drawn, toks := s'.toks } := by
    cases s'
    cases s1
    cases o
    rfl
  rw [e]
  exact ⟨.ref p, _, J, rfl, q1 ks p hs (fun k => (hm k).trans (firstMet_mem ns k)) hn⟩
end LS

namespace LH
open PySem PySem.W L2 PySem.Spec PyProof.Rows
section
variable {X : Cx} {a : Expr} {ma : Sem1 D} {pos : Pos}
theorem okE_sst {m : Bool} {p p2 pos2 : Pos} (hc : X.calm = true) (hg : Gl X "sorted") (hm : X.mg "sorted" = none) (hg2 : Gl X "set") (hm2 : X.mg "set" = none) (ha : OkE X a ma) (hs : starEach (a :: []) X.env = (false, eval a X.env) :: starEach [] X.env) :
    OkE X (.Call (.Name "sorted" p) [.Call (.Name "set" p2) [a] [] pos2] [] pos) (fun ρ S => (ma ρ S).bind fun x S1 => match (lstD S1 x).bind intsD with
    | some is => if is.length ≤ 4000 ∧ (ddI is).length < 64 then mkL m ((sortI (ddI is)).map .int) S1 else .no
    | none => .no) := by
  refine pe_weak (LS.pe_sortSet hg hm hg2 hm2 ha hc hs) ?_
  rintro σ H Q ⟨T, ρ, S, rfl, s, re, p⟩
  refine .mk s re (p.bind.imp fun d S1 T1 e1 s1 p1 v hv => ?_)
  split at p1
  · rename_i is e
    split at p1
    · rename_i hz
      obtain ⟨l, rfl, e2⟩ := lst_ints s1 hv e
      refine ⟨l, is, rfl, SqL.of e2, hz.1, hz.2, fun ks c hk hm hn => ?_⟩
      have hks : ks = sortI (ddI is) := by
        refine sorted_eqI ((List.perm_ext_iff_of_nodup (hk.imp fun h => by omega) (LS.nodup_dd is)).mpr fun k => (hm k).trans LS.mem_dd.symm) (hk.imp fun h => by omega)
      rw [hks]
      exact mkL_ok s1 (RepL.mk_ints _) p1 hn
    · exact p1.elim
  · exact p1.elim
theorem okE_lset {p p2 pos2 : Pos} (hc : X.calm = true) (hg : Gl X "len") (hm : X.mg "len" = none) (hg2 : Gl X "set") (hm2 : X.mg "set" = none) (ha : OkE X a ma) (hs : starEach (a :: []) X.env = (false, eval a X.env) :: starEach [] X.env) :
    OkE X (.Call (.Name "len" p) [.Call (.Name "set" p2) [a] [] pos2] [] pos) (fun ρ S => (ma ρ S).bind fun x S1 => match (lstD S1 x).bind intsD with
    | some is => if is.length ≤ 4000 then .ok (.int (ddI is).length) S1 else .no
    | none => .no) := by
  refine pe_weak (LS.pe_lenSet hg hm hg2 hm2 ha hc hs) ?_
  rintro σ H Q ⟨T, ρ, S, rfl, s, re, p⟩
  refine .mk s re (p.bind.imp fun d S1 T1 e1 s1 p1 v hv => ?_)
  split at p1
  · rename_i is e
    split at p1
    · rename_i hz
      obtain ⟨l, rfl, e2⟩ := lst_ints s1 hv e
      exact ⟨l, is, rfl, SqL.of e2, hz, p1.now s1 _ Rep.mk_int⟩
    · exact p1.elim
  · exact p1.elim
end
end LH

namespace LH
open PySem PySem.W L2 PySem.Spec PyProof.Rows
/-! ## methods -/
theorem ixN_seqIndex {n : Nat} {i : Int} {j : Nat} (h : ixI n i = some j) : seqIndex? i n = some j := (ixN_seq h).1
section
variable {X : Cx} {o e f : Expr} {es : List Expr} {ma mb mc : Sem1 D} {ml : Sem1 (List D)} {pos apos : Pos}
theorem lst_tyV {T : Tr} {S : Store} {d : D} {v : V} (s : SOk X.K T S) (h : Rep X.K T d v) (e : (lstD S d).isSome = true) : tyV X.K "list" v T.H := by
  obtain ⟨xs, e⟩ := Option.isSome_iff_exists.mp e
  obtain ⟨a, vs, rfl, e1, _⟩ := lstD_rep s h e
  exact .inl ⟨rfl, vs, SqL.of e1⟩
/-- a live list -/
theorem live_lst {K : Frag} {T : Tr} {S : Store} {n : Nat} {xs : List D} (s : SOk K T S) (e : S[n]? = some (.lst xs)) : ¬ T.fr (T.mu n) ∧ ¬ T.pr (T.mu n) ∧ ∃ vs, T.H (T.mu n) = some (.lst vs) ∧ RepL K T xs vs := s.ob n _ e
/-- it is changed -/
theorem set_lst {K : Frag} {T : Tr} {S : Store} {n : Nat} {xs ys : List D} {us : List V} {α : Type} {r : α} {k : α → Store → Tr → Prop} (s : SOk K T S) (e : S[n]? = some (.lst xs)) (r2 : RepL K T ys us) (p : Post K T (.ok r (S.set n (.lst ys))) k) : ∃ T', T'.H = upd T.H (T.mu n) (.lst us) ∧ Ext T T' ∧ SOk K T' (S.set n (.lst ys)) ∧ k r (S.set n (.lst ys)) T' := by
  obtain ⟨h1, h2, vs, h3, _⟩ := live_lst s e
  have x := ext_setH (o := HO.lst us) s e ⟨h1, h2⟩
  have s' := sok_setH (o := HO.lst us) (q' := .lst ys) s e trivial ⟨h1, h2⟩ ⟨h1, h2, us, upd_same, r2.mono x⟩ trivial
  exact ⟨_, rfl, x, s', p _ x s'⟩
def notSuper : Expr → Bool
  | .Call (.Name _ _) [] [] _ => false
  | _ => true
theorem base_of {o : Expr} (h : notSuper o = true) (m : Str) (env : PySem.Env) : attributeBase o m env (eval o env) = eval o env := by
  cases o with
  | Call f as ks p =>
    cases f with
    | Name x q => cases as with
      | nil => cases ks with
        | nil => cases h
        | cons _ _ => rfl
      | cons _ _ => rfl
    | _ => rfl
  | _ => rfl
theorem okE_append {m : Bool} (ho : OkE X o ma) (ha : OkE X e mb) (hb : notSuper o = true) (hl : (apos.endLine == pos.line) = true) (hs : starEach (e :: []) X.env = (false, eval e X.env) :: starEach [] X.env) :
    OkE X (.Call (.Attribute o "append" apos) [e] [] pos) (fun ρ S => (ma ρ S).bind fun x S1 => if recv .append S1 x = true then (((mb ρ S1).bind fun y S2 => (R.ok ([] : List D) S2).bind fun ys S3 => R.ok (y :: ys) S3).bind fun xs S2 => meD m .append x xs S2) else .no) := by
  refine pe_weak (pe_bm PySem.F.plainAttrs_list PySem.F.slot_list_append PySem.F.type_list_append mt_append ho (pa_cons ha pa_nil hs) (base_of hb _ _) (by rw [hs]; rfl) hl hs rfl) ?_
  rintro σ H Q ⟨T, ρ, S, rfl, s, re, p⟩
  refine .mk s re (p.bind.imp fun d S1 T1 e1 s1 p1 v hv => ?_)
  split at p1
  · rename_i hz
    refine ⟨lst_tyV s1 hv hz, .mk s1 (re.mono e1) (p1.bind.bind.imp fun d2 S2 T2 e2 s2 p2 v2 hv2 => ?_)⟩
    have p3 : Post X.K T2 (meD m .append d [d2] S2) _ := (p2.now s2).mono (.refl _)
    simp only [meD, meAppend] at p3
    split at p3
    · rename_i n x hx
      injection hx with hx1 hx2
      subst hx1
      split at p3
      · rename_i xs hs
        split at p3
        · rename_i hz
          obtain ⟨h1, h2, vs, h3, r⟩ := live_lst s2 hs
          have hv' := (hv.mono e2).ref
          obtain ⟨T', h4, _, s', q⟩ := set_lst s2 hs (r.append (.cons hv2 .nil)) p3
          refine ⟨_, vs, v2, hv'.2, rfl, h3, ?_, ?_⟩
          · rw [← r.length]; exact Nat.lt_trans hz LMAX_lt
          · rw [← h4]; exact q _ Rep.mk_non
        · exact p3.elim
      · exact p3.elim
    · exact p3.elim
  · exact p1.elim
theorem okE_insert {m : Bool} (ho : OkE X o ma) (ha : OkE X e mb) (hf : OkE X f mc) (hb : notSuper o = true) (hl : (apos.endLine == pos.line) = true) (hs : starEach (e :: [f]) X.env = (false, eval e X.env) :: starEach [f] X.env) (hs2 : starEach (f :: []) X.env = (false, eval f X.env) :: starEach [] X.env) :
    OkE X (.Call (.Attribute o "insert" apos) [e, f] [] pos) (fun ρ S => (ma ρ S).bind fun x S1 => if recv .insert S1 x = true then (((mb ρ S1).bind fun y S2 => ((mc ρ S2).bind fun z S3 => (R.ok ([] : List D) S3).bind fun ys S4 => R.ok (z :: ys) S4).bind fun ys S3 => R.ok (y :: ys) S3).bind fun xs S2 => meD m .insert x xs S2) else .no) := by
  refine pe_weak (pe_bm PySem.F.plainAttrs_list PySem.F.slot_list_insert PySem.F.type_list_insert mt_insert ho (pa_cons ha (pa_cons hf pa_nil hs2) hs) (base_of hb _ _) (by rw [hs, hs2]; rfl) hl hs (by rw [hs2]; rfl)) ?_
  rintro σ H Q ⟨T, ρ, S, rfl, s, re, p⟩
  refine .mk s re (p.bind.imp fun d S1 T1 e1 s1 p1 v hv => ?_)
  split at p1
  · rename_i hz
    refine ⟨lst_tyV s1 hv hz, .mk s1 (re.mono e1) (p1.bind.bind.imp fun d2 S2 T2 e2 s2 p2 v2 hv2 => .mk s2 ((re.mono e1).mono e2) (p2.bind.bind.imp fun d3 S3 T3 e3 s3 p3 v3 hv3 => ?_))⟩
    have p4 : Post X.K T3 (meD m .insert d [d2, d3] S3) _ := ((p3.now s3).now s3).mono (.refl _)
    simp only [meD, meInsert] at p4
    split at p4
    · rename_i n i x hx2
      injection hx2 with hx2 hx3
      subst hx2
      injection hx3 with hx3 _
      subst hx3
      split at p4
      · rename_i xs hs
        split at p4
        · rename_i hz
          obtain ⟨h1, h2, vs, h3, r⟩ := live_lst s3 hs
          have hv' := (hv.mono (e2.trans e3)).ref
          obtain ⟨T', h4, _, s', q⟩ := set_lst s3 hs (((r.take i.toNat).append (.cons hv3 .nil)).append (r.drop i.toNat)) p4
          refine ⟨_, vs, i, v3, hv'.2, ?_, h3, ?_, hz.2.1, ?_, ?_⟩
          · rw [(hv2.mono e3).int]
          · rw [← r.length]; exact Nat.lt_trans hz.1 LMAX_lt
          · have : (LMAX : Int) < 2 ^ 63 := by decide
            omega
          · rw [← h4]; exact q _ Rep.mk_non
        · exact p4.elim
      · exact p4.elim
    · exact p4.elim
  · exact p1.elim
theorem okE_pop0 {m : Bool} (ho : OkE X o ma) (hb : notSuper o = true) (hl : (apos.endLine == pos.line) = true) :
    OkE X (.Call (.Attribute o "pop" apos) [] [] pos) (fun ρ S => (ma ρ S).bind fun x S1 => if recv .pop S1 x = true then ((R.ok ([] : List D) S1).bind fun xs S2 => meD m .pop x xs S2) else .no) := by
  refine pe_weak (pe_bm0 PySem.F.plainAttrs_list PySem.F.slot_list_pop PySem.F.type_list_pop mt_pop ho (base_of hb _ _) hl) ?_
  rintro σ H Q ⟨T, ρ, S, rfl, s, re, p⟩
  refine .mk s re (p.bind.imp fun d S1 T1 e1 s1 p1 v hv => ?_)
  split at p1
  · rename_i hz
    refine ⟨lst_tyV s1 hv hz, ?_⟩
    have p3 : Post X.K T1 (meD m .pop d [] S1) _ := p1
    simp only [meD, mePop] at p3
    split at p3
    · split at p3
      · rename_i xs hs
        split at p3
        · rename_i y hy
          obtain ⟨h1, h2, vs, h3, r⟩ := live_lst s1 hs
          obtain ⟨v2, h5, h6⟩ := r.get hy
          obtain ⟨T', h4, x', s', q⟩ := set_lst s1 hs r.dropLast p3
          refine ⟨_, vs, v2, hv.ref.2, rfl, h3, ?_, ?_⟩
          · rw [← r.length]; exact h5
          · rw [← h4]; exact q _ (h6.mono x')
        · exact p3.elim
      · exact p3.elim
    · rename_i hx; cases hx
    · exact p3.elim
  · exact p1.elim
theorem okE_pop1 {m : Bool} (ho : OkE X o ma) (ha : OkE X e mb) (hb : notSuper o = true) (hl : (apos.endLine == pos.line) = true) (hs : starEach (e :: []) X.env = (false, eval e X.env) :: starEach [] X.env) :
    OkE X (.Call (.Attribute o "pop" apos) [e] [] pos) (fun ρ S => (ma ρ S).bind fun x S1 => if recv .pop S1 x = true then (((mb ρ S1).bind fun y S2 => (R.ok ([] : List D) S2).bind fun ys S3 => R.ok (y :: ys) S3).bind fun xs S2 => meD m .pop x xs S2) else .no) := by
  refine pe_weak (pe_bm PySem.F.plainAttrs_list PySem.F.slot_list_pop PySem.F.type_list_pop mt_popAt ho (pa_cons ha pa_nil hs) (base_of hb _ _) (by rw [hs]; rfl) hl hs rfl) ?_
  rintro σ H Q ⟨T, ρ, S, rfl, s, re, p⟩
  refine .mk s re (p.bind.imp fun d S1 T1 e1 s1 p1 v hv => ?_)
  split at p1
  · rename_i hz
    refine ⟨lst_tyV s1 hv hz, .mk s1 (re.mono e1) (p1.bind.bind.imp fun d2 S2 T2 e2 s2 p2 v2 hv2 => ?_)⟩
    have p3 : Post X.K T2 (meD m .pop d [d2] S2) _ := (p2.now s2).mono (.refl _)
    simp only [meD, mePop] at p3
    split at p3
    · rename_i hx; cases hx
    · rename_i n i hx
      injection hx with hx1 hx2
      subst hx1
      split at p3
      · rename_i xs hs
        split at p3
        · rename_i hlen
          split at p3
          · rename_i j hj
            split at p3
            · rename_i y hy
              obtain ⟨h1, h2, vs, h3, r⟩ := live_lst s2 hs
              obtain ⟨v3, h5, h6⟩ := r.get hy
              have hv' := (hv.mono e2).ref
              obtain ⟨T', h4, x', s', q⟩ := set_lst s2 hs (r.eraseIdx j) p3
              have hsq := ixN_seq hj
              have hB : (LMAX : Int) < 2 ^ 63 := by decide
              refine ⟨_, vs, i, j, v3, hv'.2, by rw [hv2.int], h3, by omega, by omega, ?_, h5, ?_⟩
              · rw [← r.length]; exact hsq.1
              · rw [← h4]; exact q _ (h6.mono x')
            · exact p3.elim
          · exact p3.elim
        · exact p3.elim
      · exact p3.elim
    · exact p3.elim
  · exact p1.elim
theorem okE_get {m : Bool} (hu : X.A.units + 1 < cLine) (ho : OkE X o ma) (ha : OkE X e mb) (hf : OkE X f mc) (hb : notSuper o = true) (hl : (apos.endLine == pos.line) = true) (hs : starEach (e :: [f]) X.env = (false, eval e X.env) :: starEach [f] X.env) (hs2 : starEach (f :: []) X.env = (false, eval f X.env) :: starEach [] X.env) :
    OkE X (.Call (.Attribute o "get" apos) [e, f] [] pos) (fun ρ S => (ma ρ S).bind fun x S1 => if recv .get S1 x = true then (((mb ρ S1).bind fun y S2 => ((mc ρ S2).bind fun z S3 => (R.ok ([] : List D) S3).bind fun ys S4 => R.ok (z :: ys) S4).bind fun ys S3 => R.ok (y :: ys) S3).bind fun xs S2 => meD m .get x xs S2) else .no) := by
  refine pe_weak (pe_dget2 hu ho ha hf ⟨base_of hb _ _, by rw [hs, hs2]; rfl, hl, by rw [hs, hs2]; rfl⟩) ?_
  rintro σ H Q ⟨T, ρ, S, rfl, s, re, p⟩
  refine .mk s re (p.bind.imp fun d S1 T1 e1 s1 p1 v hv => ?_)
  split at p1
  · rename_i hz
    obtain ⟨⟨t0, kv0⟩, hz⟩ := Option.isSome_iff_exists.mp hz
    obtain ⟨a, u, us, ea, ru, dk, _⟩ := dctD_rep s1 hv hz
    refine ⟨a, ea, ?_, .mk s1 (re.mono e1) (p1.bind.bind.imp fun d2 S2 T2 e2 s2 p2 v2 hv2 => .mk s2 ((re.mono e1).mono e2) (p2.bind.bind.imp fun d3 S3 T3 e3 s3 p3 v3 hv3 => ?_))⟩
    · rcases dk with ⟨_, kv, rfl, _⟩ | ⟨_, kv, rfl, _⟩
      · exact .inl ⟨kv, ru⟩
      · exact .inr ⟨kv, ru⟩
    have p4 : Post X.K T3 (meD m .get d [d2, d3] S3) _ := ((p3.now s3).now s3).mono (.refl _)
    simp only [meD, meGet] at p4
    split at p4
    · rename_i t kvs q h1 h2
      split at p4
      · rename_i hq
        obtain ⟨b, o, eb, g, ho⟩ := dget_rep s3 (hv.mono (e2.trans e3)) h1 (hv2.mono e3) h2 hq
        rw [ea] at eb
        cases eb
        refine ⟨o, g, ?_⟩
        rcases ho with ⟨h3, rfl⟩ | ⟨d', v', h3, rfl, h4⟩
        · rw [h3] at p4; exact p4.now s3 _ hv3
        · rw [h3] at p4; exact p4.now s3 _ h4
      · exact p4.elim
    · exact p4.elim
  · exact p1.elim
theorem okE_bits {m : Bool} (ho : OkE X o ma) (hb : notSuper o = true) (hl : (apos.endLine == pos.line) = true) :
    OkE X (.Call (.Attribute o "bit_length" apos) [] [] pos) (fun ρ S => (ma ρ S).bind fun x S1 => if recv .bitlen S1 x = true then ((R.ok ([] : List D) S1).bind fun xs S2 => meD m .bitlen x xs S2) else .no) := by
  refine pe_weak (pe_bits ho (base_of hb _ _) hl) ?_
  rintro σ H Q ⟨T, ρ, S, rfl, s, re, p⟩
  refine .mk s re (p.bind.imp fun d S1 T1 e1 s1 p1 v hv => ?_)
  split at p1
  · have p3 : Post X.K T1 (meD m .bitlen d [] S1) _ := p1
    simp only [meD, meBits] at p3
    split at p3
    · exact ⟨_, hv.int, p3.now s1 _ Rep.mk_int⟩
    · exact p3.elim
  · exact p1.elim
theorem join_tyV {T : Tr} {S : Store} {d : D} {v : V} (h : Rep X.K T d v) (e : recv .join S d = true) : tyV X.K "str" v T.H := by
  cases d with
  | str x => rw [h.str]; rfl
  | _ => simp [recv] at e
theorem okE_count {m : Bool} (ho : OkE X o ma) (ha : OkE X e mb) (hb : notSuper o = true) (hl : (apos.endLine == pos.line) = true) (hs : starEach (e :: []) X.env = (false, eval e X.env) :: starEach [] X.env) :
    OkE X (.Call (.Attribute o "count" apos) [e] [] pos) (fun ρ S => (ma ρ S).bind fun x S1 => if recv .count S1 x = true then (((mb ρ S1).bind fun y S2 => (R.ok ([] : List D) S2).bind fun ys S3 => R.ok (y :: ys) S3).bind fun xs S2 => meD m .count x xs S2) else .no) := by
  refine pe_weak (pe_bm PySem.F.plainAttrs_list PySem.F.slot_list_count PySem.F.type_list_count mt_lcount ho (pa_cons ha pa_nil hs) (base_of hb _ _) (by rw [hs]; rfl) hl hs rfl) ?_
  rintro σ H Q ⟨T, ρ, S, rfl, s, re, p⟩
  refine .mk s re (p.bind.imp fun d S1 T1 e1 s1 p1 v hv => ?_)
  split at p1
  · rename_i hz
    refine ⟨lst_tyV s1 hv hz, .mk s1 (re.mono e1) (p1.bind.bind.imp fun d2 S2 T2 e2 s2 p2 v2 hv2 => ?_)⟩
    have p3 : Post X.K T2 (meD m .count d [d2] S2) _ := (p2.now s2).mono (.refl _)
    have hv' := hv.mono e2
    simp only [meD, meCount] at p3
    split at p3
    · rename_i is k h1 h2
      cases h2
      obtain ⟨a, rfl, h3⟩ := lst_ints s2 hv' h1
      rw [hv2.int]
      exact ⟨a, is, k, rfl, rfl, SqL.of h3, p3.now s2 _ Rep.mk_int⟩
    · exact p3.elim
  · exact p1.elim
theorem okE_index {m : Bool} (hu : X.A.units + 65 < cLine) (ho : OkE X o ma) (ha : OkE X e mb) (hb : notSuper o = true) (hl : (apos.endLine == pos.line) = true) (hs : starEach (e :: []) X.env = (false, eval e X.env) :: starEach [] X.env) :
    OkE X (.Call (.Attribute o "index" apos) [e] [] pos) (fun ρ S => (ma ρ S).bind fun x S1 => if recv .index S1 x = true then (((mb ρ S1).bind fun y S2 => (R.ok ([] : List D) S2).bind fun ys S3 => R.ok (y :: ys) S3).bind fun xs S2 => meD m .index x xs S2) else .no) := by
  refine pe_weak (pe_bm PySem.F.plainAttrs_list PySem.F.slot_list_index PySem.F.type_list_index (mt_indexD hu) ho (pa_cons ha pa_nil hs) (base_of hb _ _) (by rw [hs]; rfl) hl hs rfl) ?_
  rintro σ H Q ⟨T, ρ, S, rfl, s, re, p⟩
  refine .mk s re (p.bind.imp fun d S1 T1 e1 s1 p1 v hv => ?_)
  split at p1
  · rename_i hz
    refine ⟨lst_tyV s1 hv hz, .mk s1 (re.mono e1) (p1.bind.bind.imp fun d2 S2 T2 e2 s2 p2 v2 hv2 => ?_)⟩
    have p3 : Post X.K T2 (meD m .index d [d2] S2) _ := (p2.now s2).mono (.refl _)
    have hv' := hv.mono e2
    simp only [meD, meIndex] at p3
    split at p3
    · rename_i xs d' h1 h2
      cases h2
      split at p3
      · rename_i hz
        rw [Bool.and_eq_true] at hz
        split at p3
        · rename_i j hj
          obtain ⟨a, vs, rfl, h3, r⟩ := lstD_rep s2 hv' h1
          have hp : D.plainL 19 xs = true := by have h := hz.2; unfold DEEP at h; simp only [D.plain] at h; exact h
          have hp20 : D.plainL 20 xs = true := plainL_up 19 xs hp
          obtain ⟨j1, j2, j3⟩ := List.findIdx?_eq_some_iff_getElem.mp hj
          have gx : ∀ (m : Nat) (hm : m < xs.length), (D.pyL xs)[m]? = some xs[m].py := fun m hm => by rw [pyL_map, List.getElem?_map, List.getElem?_eq_getElem hm]; rfl
          have ge : ∀ (m : Nat) (hm : m < xs.length), PyData.eqv xs[m].py d2.py = eqD xs[m] d2 := fun m hm => eqD_py 20 _ _ (plainL_mem hp20 _ (List.getElem_mem hm)) hz.1
          refine ⟨a, v2, d2.py, D.pyL xs, j, xs[j].py, rfl, rfl, .lst (SqL.of h3) (RepL.dpP hp r), Rep.dpP hz.1 hv2, ?_, shaped_plain hz.1, gx j j1, by rw [ge]; exact j2, fun m z' hm e => ?_, p3.now s2 _ Rep.mk_int⟩
          · have := shaped_plain hz.2
            simpa only [D.py] using this
          · have hm' : m < xs.length := by omega
            rw [gx m hm'] at e
            cases e
            rw [ge]
            simpa using j3 m hm
        · exact p3.elim
      · exact p3.elim
    · exact p3.elim
  · exact p1.elim
theorem okE_join {m : Bool} (ho : OkE X o ma) (ha : OkE X e mb) (hb : notSuper o = true) (hl : (apos.endLine == pos.line) = true) (hs : starEach (e :: []) X.env = (false, eval e X.env) :: starEach [] X.env) :
    OkE X (.Call (.Attribute o "join" apos) [e] [] pos) (fun ρ S => (ma ρ S).bind fun x S1 => if recv .join S1 x = true then (((mb ρ S1).bind fun y S2 => (R.ok ([] : List D) S2).bind fun ys S3 => R.ok (y :: ys) S3).bind fun xs S2 => meD m .join x xs S2) else .no) := by
  refine pe_weak (pe_bm PySem.F.plainAttrs_str PySem.F.slot_str_join PySem.F.type_str_join mt_join ho (pa_cons ha pa_nil hs) (base_of hb _ _) (by rw [hs]; rfl) hl hs rfl) ?_
  rintro σ H Q ⟨T, ρ, S, rfl, s, re, p⟩
  refine .mk s re (p.bind.imp fun d S1 T1 e1 s1 p1 v hv => ?_)
  split at p1
  · rename_i hz
    refine ⟨join_tyV hv hz, .mk s1 (re.mono e1) (p1.bind.bind.imp fun d2 S2 T2 e2 s2 p2 v2 hv2 => ?_)⟩
    have p3 : Post X.K T2 (meD m .join d [d2] S2) _ := (p2.now s2).mono (.refl _)
    have hv' := hv.mono e2
    simp only [meD, meJoin] at p3
    split at p3
    · rename_i z d' h2
      cases h2
      split at p3
      · rename_i ys h1
        split at p3
        · rename_i hz
          simp only [Option.bind_eq_some_iff] at h1
          obtain ⟨zs, e3, e4⟩ := h1
          rw [strsD_eq e4] at e3
          obtain ⟨a, us, rfl, e5, r⟩ := lstD_rep s2 hv2 e3
          rw [r.strs] at e5
          rw [hv'.str]
          exact ⟨z, a, ys, rfl, rfl, .inl (SqL.of e5), Nat.le_trans hz (by decide), p3.now s2 _ Rep.mk_str⟩
        · exact p3.elim
      · exact p3.elim
    · exact p3.elim
  · exact p1.elim
end
end LH

namespace LH
open PySem PySem.W L2 PySem.Spec PyProof.Rows
/-! ## defs -/
/-- what a def keeps, called where no repr is under way -/
structure FnG (P : Program) (w : World) (K : Frag) (mg : Str → Option Value) (base : Heap) (k : Nat) (f : Addr) (fd : FuncData) (ps : List Str) (sp : Sp) : Prop where
  len : ∀ vs H Q E, sp vs H Q E → vs.length = ps.length
  run : ∀ (A : Around) (outer : List PySem.Env) (s : Shared) (H : Hp) (args : Args) (us : List Value) (vs : List V) (Q : VK) (E : XK), Room k A → A.guards = some [] →
    Env0 P w K mg base A outer s H → BindsTo s fd args (ps.zip us) → Vals vs us → sp vs H Q E → codeAny (model P w) A (.call (.ref f) args) (CR (L2.CX P w) outer P w H s Q E) s
def spOf (K : Frag) (c : Nat → List D → Store → R D) (i n : Nat) : Sp := fun vs H Q E => vs.length = n ∧ ∃ ds T S, T.H = H ∧ SOk K T S ∧ RepL K T ds vs ∧ PostX K E T (c i ds S) (kV' K Q)
/-! ## a call that touches none of what is live -/
section
variable {K : Frag} {T T' : Tr} {S : Store}
mutual
theorem Rep.low0 (ef : ∀ a, T.fr a → T'.fr a) (eh : T'.H = T.H) : ∀ {d : D} {v : V}, d.cl 0 = true → Rep K T d v → Rep K T' d v
  | .non, _, _, h => by unfold Rep at h ⊢; exact h
  | .bl _, _, _, h => by unfold Rep at h ⊢; exact h
  | .int _, _, _, h => by unfold Rep at h ⊢; exact h
  | .str _, _, _, h => by unfold Rep at h ⊢; exact h
  | .lst xs, _, c, h => by
    unfold Rep at h ⊢
    obtain ⟨a, vs, e1, f, o, r⟩ := h
    exact ⟨a, vs, e1, ef a f, by rw [eh]; exact o, RepL.low0 ef eh (by simpa only [D.cl] using c) r⟩
  | .tup xs, _, c, h => by
    unfold Rep at h ⊢
    obtain ⟨a, vs, e1, f, o, r⟩ := h
    exact ⟨a, vs, e1, ef a f, by rw [eh]; exact o, RepL.low0 ef eh (by simpa only [D.cl] using c) r⟩
  | .dct t ks ds, _, c, h => by
    unfold Rep at h ⊢
    obtain ⟨a, u, vs, e1, f, o, k, r⟩ := h
    exact ⟨a, u, vs, e1, ef a f, by rw [eh]; exact o, k, RepL.low0 ef eh (by simpa only [D.cl] using c) r⟩
  | .ref n, _, c, h => by simp [D.cl] at c
  | .fn _, _, _, h => by unfold Rep at h ⊢; exact h
  | .exc k d, _, c, h => by
    unfold Rep at h ⊢
    obtain ⟨a, dx, C, oe, fs, u, e1, f, o, z, v, n, f2, o2, l, r⟩ := h
    exact ⟨a, dx, C, oe, fs, u, e1, ef a f, by rw [eh]; exact o, z, v, n, ef dx f2, by rw [eh]; exact o2, l, Rep.low0 ef eh (by simpa only [D.cl] using c) r⟩
  | .scr ns, _, _, h => by
    unfold Rep at h ⊢
    obtain ⟨a, e1, o⟩ := h
    exact ⟨a, e1, o.imp (fun ⟨f, o, z⟩ => ⟨ef a f, o, by rw [eh]; exact z⟩) fun z => z⟩
theorem RepL.low0 (ef : ∀ a, T.fr a → T'.fr a) (eh : T'.H = T.H) : ∀ {ds : List D} {vs : List V}, D.clL 0 ds = true → RepL K T ds vs → RepL K T' ds vs
  | [], _, _, h => by unfold RepL at h ⊢; exact h
  | d :: ds, _, c, h => by
    simp only [D.clL, Bool.and_eq_true] at c
    unfold RepL at h ⊢
    obtain ⟨v, r, e1, h1, h2⟩ := h
    exact ⟨v, r, e1, Rep.low0 ef eh c.1 h1, RepL.low0 ef eh c.2 h2⟩
end
/-- an object that may change -/
def Ob.free : Ob → Prop
  | .lst _ => True
  | .dct _ _ => True
  | _ => False
/-- the live objects are kept for somebody -/
def Tr.hide (T : Tr) (S : Store) : Tr := { T with pr := fun a => T.pr a ∨ ∃ n o, S[n]? = some o ∧ o.free ∧ a = T.mu n, N := 0 }
def Tr.unhide (T2 T1 : Tr) : Tr := { T2 with pr := T1.pr, mu := T1.mu, N := T1.N }
theorem hide_sok (s : SOk K T S) : SOk K (T.hide S) [] where
  len := rfl
  ob := fun n o h => by simp at h
  inj := fun n m o q h => by simp at h
  frn := s.frn
  prn := fun a h => by
    rcases h with h | ⟨n, o, ho, hf, rfl⟩
    · exact s.prn a h
    · exact (s.ob n o ho).some (by cases o <;> first | trivial | exact hf)
  prk := fun a u h e => by
    rcases h with h | ⟨n, o, ho, hf, rfl⟩
    · exact s.prk a u h e
    · have q := s.ob n o ho
      cases o with
      | lst xs =>
        obtain ⟨_, _, vs, e2, _⟩ := q
        have e : T.H (T.mu n) = some u := e
        rw [e2] at e
        cases e
        exact fun _ z => nomatch z
      | dct t kvs =>
        obtain ⟨_, _, u', vs, e2, dk, _⟩ := q
        have e : T.H (T.mu n) = some u := e
        rw [e2] at e
        cases e
        rcases dk with ⟨_, kv, rfl, _⟩ | ⟨_, kv, rfl, _⟩ <;> exact fun _ z => nomatch z
      | lk _ _ => exact hf.elim
      | dead => exact hf.elim
  dis := fun a h z => by
    rcases h with h | ⟨n, o, ho, hf, rfl⟩
    · exact s.dis a h z
    · have q := s.ob n o ho
      cases o with
      | lst xs => exact q.1 z
      | dct t kvs => exact q.1 z
      | lk _ _ => exact hf.elim
      | dead => exact hf.elim
theorem unhide {T2 : Tr} (s : SOk K T S) (e : Ext (T.hide S) T2) (s2 : SOk K T2 []) : Ext T (T2.unhide T) ∧ SOk K (T2.unhide T) S := by
  have x : Ext T (T2.unhide T) := {
    fr := e.fr
    hp := e.hp
    pr := fun a h => ⟨h, (e.pr a (.inl h)).2.1, (e.pr a (.inl h)).2.2⟩
    mu := fun _ _ => rfl
    N := Nat.le_refl _ }
  refine ⟨x, {
    len := s.len
    ob := fun n o h => ?_
    inj := s.inj
    frn := s2.frn
    prn := fun a h => by
      show T2.H a ≠ none
      rw [(e.pr a (.inl h)).2.1]; exact s.prn a h
    prk := fun a u h e3 => s.prk a u h ((e.pr a (.inl h)).2.1.symm.trans e3)
    dis := fun a h z => s.dis a h ((e.pr a (.inl h)).2.2 z) }⟩
  have q := s.ob n o h
  cases o with
  | lst xs =>
    have k := e.pr (T.mu n) (.inr ⟨n, _, h, trivial, rfl⟩)
    obtain ⟨h1, h2, vs, e1, r⟩ := q
    exact ⟨fun z => h1 (k.2.2 z), h2, vs, k.2.1.trans e1, r.mono x⟩
  | dct t kvs =>
    have k := e.pr (T.mu n) (.inr ⟨n, _, h, trivial, rfl⟩)
    obtain ⟨h1, h2, u, vs, e1, dk, r⟩ := q
    exact ⟨fun z => h1 (k.2.2 z), h2, u, vs, k.2.1.trans e1, dk, r.mono x⟩
  | lk t kvs =>
    obtain ⟨h1, od, u, vs, e1, dk, r⟩ := q
    exact ⟨e.fr _ h1, od, u, vs, (e.hp _ _ h1 e1).resolve_right (fun z => z.1), dk, r.mono x⟩
  | dead => trivial
end
section
variable {X : Cx} {k : Nat} {f : Addr} {fd : FuncData} {ps : List Str} {sp : Sp}
/-- there is an answer, or an exception -/
def R.yes {α : Type} : R α → Prop
  | .no => False
  | _ => True
variable {W : WX}
theorem end_fnX {pins : List (Addr × Obj)} {σ : L2.St} {H : Hp} {s : Shared} {Q : VK} (tk : L2.Takes X W) (I : L2.Inv X pins σ H s) {r : Result} {s' : Shared} (h : CR (L2.CX X.prog X.w) X.stack X.prog X.w H s Q (fun c d H' => W c d σ H') r s') : callEnd (EP X pins σ Q) X.xe r s' := by
  match r, h with
  | .error e, h => exact tk e s' (L2.XE.of_call I (fun _ _ _ z => z) h)
  | .ok (.ret u), h => exact I.after h
  | .ok .next, h => exact h.elim
  | .ok .brk, h => exact h.elim
  | .ok .cont, h => exact h.elim
theorem run_fnX {pins : List (Addr × Obj)} {σ : L2.St} {H : Hp} {s : Shared} {Q : VK} {args : Args} {zs : List Value} {vs : List V} (F : FnG X.prog X.w X.K X.mg X.base k f fd ps sp) (hr : Room k X.A) (hg : X.A.guards = some []) (tk : L2.Takes X W)
    (I : L2.Inv X pins σ H s) (b : BindsTo s fd args (ps.zip zs)) (r : Vals vs zs) (h : sp vs H Q (fun c d H' => W c d σ H')) : wpAny (model X.prog X.w) X.A (PySem.call (.ref f) args.pos args.kw) (EP X pins σ Q) X.xe s :=
  wpAny_call (codeAny_mono (F.run X.A X.stack s H args zs vs Q _ hr hg I.env0 b r h) fun _ _ q => end_fnX tk I q)
/-- keywords -/
def KwB (K : Frag) (fd : FuncData) (ps : List Str) (n : Nat) (ks : List Str) (p : List Nat) : Prop :=
  ∀ (s : Shared) (us ws : List Value), K.In s.heap → us.length = n → ws.length = ks.length → BindsTo s fd ⟨us, ks.zip ws⟩ (ps.zip (p.filterMap fun i => (us ++ ws)[i]?))
variable {e : Expr} {es : List Expr} {kws : List Keyword} {ml mk : Sem1 (List D)} {c : Nat → List D → Store → R D} {i : Nat} {x : Str} {pos q : Pos}
/-- where an exception may go on -/
def tX (K : Frag) (W : WX) (m : Sem1 D) : TE := fun σ H Q => ∃ T ρ S, T.H = H ∧ SOk K T S ∧ REnv K T ρ σ ∧ PostX K (fun c d H' => W c d σ H') T (m ρ S) (kV' K Q)
abbrev OkX (X : Cx) (W : WX) (e : Expr) (m : Sem1 D) : Prop := PE X e (tX X.K W m)
theorem OkX.no {X : Cx} {e : Expr} {m : Sem1 D} (h : OkX X (fun _ _ _ _ => False) e m) : OkE X e (fun ρ S => (m ρ S).noex) := pe_weak h fun σ H Q ⟨T, ρ, S, e1, s, r, p⟩ => ⟨T, ρ, S, e1, s, r, PostX.of p⟩
theorem yes_of {Z : XK} {K : Frag} {T : Tr} {r : R D} {k : D → Store → Tr → Prop} (h : PostX K Z T r k) : r.yes := by
  cases r with
  | ok _ _ => trivial
  | ex _ _ _ => trivial
  | no => exact h
section
variable {pins : List (Addr × Obj)} {σ : L2.St} {s : Shared} {Q : VK} {T : Tr} {S : Store} {ρ : Env}
/-- behind the callee -/
theorem core_call (F : FnG X.prog X.w X.K X.mg X.base k f fd ps (spOf X.K c i ps.length)) (hr : Room k X.A) (hG : X.A.guards = some []) (tk : L2.Takes X W) (hk : keepIn X.K (.ref f) = true) (hb : Binds X.K fd ps [])
    (ha : OkL X (e :: es) ml) (hs : starEach (e :: es) X.env = (false, eval e X.env) :: starEach es X.env) (hpl : (backTo pos (starEach es X.env)).any (·.1) = false) (har : ∀ ds S, (c i ds S).yes → ds.length = ps.length)
    (I : L2.Inv X pins σ T.H s) (so : SOk X.K T S) (re : REnv X.K T ρ σ) (p : PostX X.K (fun c d H' => W c d σ H') T ((ml ρ S).noex.bind fun xs S1 => c i xs S1) (kV' X.K Q)) :
    wpAny (model X.prog X.w) X.A (callWith pos (.ref f) [] (backTo pos (starEach (e :: es) X.env)) []) (EP X pins σ Q) X.xe s := by
  refine callWith_K (h₀ := X.base) I.ok.mod.kin hk (thn (ha.run pos pins s σ T.H _ I (.mk so re (p.bind.imp (k' := kL X.K fun vs H1 => spOf X.K c i ps.length vs H1 Q (fun c d H' => W c d σ H')) fun ds S1 T1 e1 s1 p1 vs hvs => ⟨?_, ds, T1, S1, rfl, s1, hvs, p1⟩))) fun us s1 ⟨vs, H1, I1, r, q1⟩ => ⟨I1.kIn, ?_⟩) hs hpl
  · rw [← hvs.length]; exact har _ _ (yes_of p1)
  · have hl : us.length = ps.length := by rw [← r.length]; exact q1.1
    have b := hb s1 us I1.kIn (by rw [List.append_nil]; exact hl)
    rw [List.append_nil] at b
    exact run_fnX F hr hG tk I1 b r q1
theorem core_call0 (F : FnG X.prog X.w X.K X.mg X.base k f fd ps (spOf X.K c i ps.length)) (hr : Room k X.A) (hG : X.A.guards = some []) (tk : L2.Takes X W) (hk : keepIn X.K (.ref f) = true) (hb : Binds X.K fd ps []) (har : ∀ ds S, (c i ds S).yes → ds.length = ps.length)
    (I : L2.Inv X pins σ T.H s) (so : SOk X.K T S) (p : PostX X.K (fun c d H' => W c d σ H') T (c i [] S) (kV' X.K Q)) :
    wpAny (model X.prog X.w) X.A (callWith pos (.ref f) [] (backTo pos (starEach [] X.env)) []) (EP X pins σ Q) X.xe s := by
  have hl : ([] : List D).length = ps.length := har _ _ (yes_of p)
  refine callWith_K0 I.kIn hk ?_
  have b := hb s [] I.kIn hl
  exact run_fnX F hr hG tk I b .nil ⟨hl, [], T, S, rfl, so, .nil, p⟩
end
theorem okX_call (F : FnG X.prog X.w X.K X.mg X.base k f fd ps (spOf X.K c i ps.length)) (hr : Room k X.A) (hG : X.A.guards = some []) (tk : L2.Takes X W) (hg : Gl X x) (hm : X.mg x = some (.ref f)) (hk : keepIn X.K (.ref f) = true) (hb : Binds X.K fd ps [])
    (ha : OkL X (e :: es) ml) (hd : (x == ("__debug__" : Str)) = false) (hs : starEach (e :: es) X.env = (false, eval e X.env) :: starEach es X.env) (hpl : (backTo pos (starEach es X.env)).any (·.1) = false)
    (har : ∀ ds S, (c i ds S).yes → ds.length = ps.length) :
    OkX X W (.Call (.Name x q) (e :: es) [] pos) (fun ρ S => (ml ρ S).noex.bind fun xs S1 => c i xs S1) := by
  refine ⟨fun pins s σ H Q I h => ?_⟩
  obtain ⟨T, ρ, S, rfl, so, re, p⟩ := h
  exact wpAny_Call_Name_kw (ld_glob I hg hm (core_call F hr hG tk hk hb ha hs hpl har I so re p) hd)
theorem okE_call (F : FnG X.prog X.w X.K X.mg X.base k f fd ps (spOf X.K c i ps.length)) (hr : Room k X.A) (hG : X.A.guards = some []) (hg : Gl X x) (hm : X.mg x = some (.ref f)) (hk : keepIn X.K (.ref f) = true) (hb : Binds X.K fd ps [])
    (ha : OkL X (e :: es) ml) (hd : (x == ("__debug__" : Str)) = false) (hs : starEach (e :: es) X.env = (false, eval e X.env) :: starEach es X.env) (hpl : (backTo pos (starEach es X.env)).any (·.1) = false)
    (har : ∀ ds S, (c i ds S).yes → ds.length = ps.length) :
    OkE X (.Call (.Name x q) (e :: es) [] pos) (fun ρ S => (ml ρ S).bind fun xs S1 => (c i xs S1).noex) := by
  refine pe_weak (OkX.no (okX_call F hr hG L2.takes0 hg hm hk hb ha hd hs hpl har)) fun σ H Q ⟨T, ρ, S, e1, s, r, p⟩ => ⟨T, ρ, S, e1, s, r, ?_⟩
  dsimp only at p ⊢
  cases h : ml ρ S with
  | ok xs S1 => rw [h] at p; exact p
  | ex _ _ _ => rw [h] at p; exact p
  | no => rw [h] at p; exact p
theorem okE_callC (F : FnG X.prog X.w X.K X.mg X.base k f fd ps (spOf X.K c i ps.length)) (hr : Room k X.A) (hG : X.A.guards = some []) (hg : Gl X x) (hm : X.mg x = some (.ref f)) (hk : keepIn X.K (.ref f) = true) (hb : Binds X.K fd ps [])
    (ha : OkL X (e :: es) ml) (hd : (x == ("__debug__" : Str)) = false) (hs : starEach (e :: es) X.env = (false, eval e X.env) :: starEach es X.env) (hpl : (backTo pos (starEach es X.env)).any (·.1) = false)
    (har : ∀ ds S, (c i ds S).yes → ds.length = ps.length) :
    OkE X (.Call (.Name x q) (e :: es) [] pos) (fun ρ S => (ml ρ S).bind fun xs S1 => if D.clL 0 xs = true then match c i xs [] with
    | .ok d [] => if d.cl 0 = true then .ok d S1 else .no
    | _ => .no else .no) := by
  refine ⟨fun pins s σ H Q I h => ?_⟩
  obtain ⟨T, ρ, S, rfl, so, re, p⟩ := h
  refine wpAny_Call_Name_kw (ld_glob I hg hm ?_ hd)
  refine callWith_K (h₀ := X.base) I.ok.mod.kin hk (thn (ha.run pos pins s σ T.H _ I (.mk so re (p.bind.imp (k' := kL X.K fun vs H1 => spOf X.K c i ps.length vs H1 Q fun _ _ _ => False) fun ds S1 T1 e1 s1 p1 vs hvs => ?_))) fun us s1 ⟨vs, H1, I1, r, q1⟩ => ⟨I1.kIn, ?_⟩) hs hpl
  · split at p1
    · rename_i hcl
      split at p1
      · rename_i d hc
        split at p1
        · rename_i hd0
          refine ⟨?_, ds, T1.hide S1, [], rfl, hide_sok s1, RepL.low0 (T := T1) (T' := T1.hide S1) (fun a z => z) rfl hcl hvs, ?_⟩
          · rw [← hvs.length]; exact har ds [] (by rw [hc]; trivial)
          · rw [hc]
            intro T2 e2 s2 v rv
            obtain ⟨x1, x2⟩ := unhide s1 e2 s2
            exact p1 (T2.unhide T1) x1 x2 v (Rep.low0 (T := T2) (T' := T2.unhide T1) (fun a z => z) rfl hd0 rv)
        · exact p1.elim
      · exact p1.elim
    · exact p1.elim
  · have hl : us.length = ps.length := by rw [← r.length]; exact q1.1
    have b := hb s1 us I1.kIn (by rw [List.append_nil]; exact hl)
    rw [List.append_nil] at b
    exact run_fnX F hr hG (W := fun _ _ _ _ => False) L2.takes0 I1 b r q1
theorem okX_call0 (F : FnG X.prog X.w X.K X.mg X.base k f fd ps (spOf X.K c i ps.length)) (hr : Room k X.A) (hG : X.A.guards = some []) (tk : L2.Takes X W) (hg : Gl X x) (hm : X.mg x = some (.ref f)) (hk : keepIn X.K (.ref f) = true) (hb : Binds X.K fd ps [])
    (hd : (x == ("__debug__" : Str)) = false) (har : ∀ ds S, (c i ds S).yes → ds.length = ps.length) :
    OkX X W (.Call (.Name x q) [] [] pos) (fun ρ S => (R.ok ([] : List D) S).noex.bind fun xs S1 => c i xs S1) := by
  refine ⟨fun pins s σ H Q I h => ?_⟩
  obtain ⟨T, ρ, S, rfl, so, re, p⟩ := h
  exact wpAny_Call_Name_kw (ld_glob I hg hm (core_call0 F hr hG tk hk hb har I so p) hd)
theorem okE_call0 (F : FnG X.prog X.w X.K X.mg X.base k f fd ps (spOf X.K c i ps.length)) (hr : Room k X.A) (hG : X.A.guards = some []) (hg : Gl X x) (hm : X.mg x = some (.ref f)) (hk : keepIn X.K (.ref f) = true) (hb : Binds X.K fd ps [])
    (hd : (x == ("__debug__" : Str)) = false) (har : ∀ ds S, (c i ds S).yes → ds.length = ps.length) :
    OkE X (.Call (.Name x q) [] [] pos) (fun ρ S => (R.ok ([] : List D) S).bind fun xs S1 => (c i xs S1).noex) :=
  pe_weak (OkX.no (okX_call0 F hr hG L2.takes0 hg hm hk hb hd har)) fun σ H Q ⟨T, ρ, S, e1, s, r, p⟩ => ⟨T, ρ, S, e1, s, r, p⟩
theorem filterMap_vals {vs : List V} {us : List Value} (r : Vals vs us) : ∀ {p : List Nat} {zs : List D} {ds : List D}, ds.length = vs.length → p.mapM (fun i => ds[i]?) = some zs → Vals (p.filterMap fun i => vs[i]?) (p.filterMap fun i => us[i]?)
  | [], _, _, _, _ => .nil
  | j :: p, zs, ds, hl, e => by
    rw [List.mapM_cons] at e
    simp only [Option.bind_eq_bind, Option.bind_eq_some_iff, Option.pure_def, Option.some.injEq] at e
    obtain ⟨d, e1, ys, e2, rfl⟩ := e
    have hj : j < vs.length := by rw [← hl]; exact (List.getElem?_eq_some_iff.mp e1).1
    obtain ⟨u, e3, ru⟩ := r.get (List.getElem?_eq_getElem hj)
    rw [List.filterMap_cons, List.filterMap_cons, List.getElem?_eq_getElem hj, e3]
    exact .cons ru (filterMap_vals r hl e2)
theorem filterMap_rep {K : Frag} {T : Tr} {ds : List D} {vs : List V} (r : RepL K T ds vs) : ∀ {p : List Nat} {zs : List D}, p.mapM (fun i => ds[i]?) = some zs → RepL K T zs (p.filterMap fun i => vs[i]?)
  | [], zs, e => by
    simp only [List.mapM_nil, Option.pure_def, Option.some.injEq] at e
    subst e; exact .nil
  | j :: p, zs, e => by
    rw [List.mapM_cons] at e
    simp only [Option.bind_eq_bind, Option.bind_eq_some_iff, Option.pure_def, Option.some.injEq] at e
    obtain ⟨d, e1, ys, e2, rfl⟩ := e
    obtain ⟨v, e3, h⟩ := r.get e1
    rw [List.filterMap_cons, e3]
    exact .cons h (filterMap_rep r e2)
/-- the keywords' values -/
def OkK (X : Cx) (kws : List Keyword) (m : Sem1 (List D)) : Prop := PK X kws (tL X.K m)
theorem pk_weak {t t' : TA} (h : PK X kws t) (g : ∀ σ H Q, t' σ H Q → t σ H Q) : PK X kws t' := ⟨fun pos pins s σ H Q I q => h.run pos pins s σ H Q I (g σ H Q q)⟩
theorem okK_nil : OkK X [] (fun _ S => .ok [] S) := by
  refine pk_weak pk_nil ?_
  rintro σ H Q ⟨T, ρ, S, rfl, s, re, p⟩
  exact p.now s [] .nil
theorem okK_cons {m : Sem1 D} {nm : Option Str} {kp : Pos} (ha : OkE X e m) (hr : OkK X kws mk) : OkK X (⟨nm, e, kp⟩ :: kws) (fun ρ S => (m ρ S).bind fun x S1 => (mk ρ S1).bind fun xs S2 => .ok (x :: xs) S2) := by
  refine pk_weak (pk_cons ha hr) ?_
  rintro σ H Q ⟨T, ρ, S, rfl, s, re, p⟩
  refine .mk s re (p.bind.imp fun d S1 T1 e1 s1 p1 v hv => .mk s1 (re.mono e1) (p1.bind.imp fun ds S2 T2 e2 s2 p2 vs hvs => ?_))
  exact p2.now s2 _ (.cons (hv.mono e2) hvs)
/-- behind the arguments of a call with keywords -/
theorem call_kw {n : Nat} {ks : List Str} {p : List Nat} (F : FnG X.prog X.w X.K X.mg X.base k f fd ps (spOf X.K c i ps.length)) (hr : Room k X.A) (hG : X.A.guards = some []) (tk : L2.Takes X W) (hb : KwB X.K fd ps n ks p) (har : ∀ ds S, (c i ds S).yes → ds.length = ps.length)
    {pins : List (Addr × Obj)} {σ : L2.St} {s : Shared} {Q : VK} {T : Tr} {S : Store} {xs ys : List D} {vs ws : List V} {us zs : List Value} (I : L2.Inv X pins σ T.H s) (so : SOk X.K T S) (rx : RepL X.K T xs vs) (ry : RepL X.K T ys ws) (hn : xs.length = n) (hm : ys.length = ks.length)
    (vu : Vals vs us) (wz : Vals ws zs) (q : PostX X.K (fun c d H' => W c d σ H') T (match p.mapM fun i => (xs ++ ys)[i]? with
      | some zs => c i zs S
      | none => .no) (kV' X.K Q)) : wpAny (model X.prog X.w) X.A (PySem.call (.ref f) us (ks.zip zs)) (EP X pins σ Q) X.xe s := by
  cases hp : p.mapM (fun i => (xs ++ ys)[i]?) with
  | none => rw [hp] at q; exact q.elim
  | some ds =>
    rw [hp] at q
    have q : PostX X.K (fun c d H' => W c d σ H') T (c i ds S) (kV' X.K Q) := q
    have r := rx.append ry
    have hl : (xs ++ ys).length = (vs ++ ws).length := r.length
    have v2 := filterMap_vals (vu.append wz) hl hp
    have r2 := filterMap_rep r hp
    have b := hb s us zs I.kIn (by rw [← vu.length, ← rx.length]; exact hn) (by rw [← wz.length, ← ry.length]; exact hm)
    refine run_fnX F hr hG tk I b v2 ⟨?_, ds, T, S, rfl, so, r2, q⟩
    rw [← r2.length]
    exact har _ _ (yes_of q)
/-- what a call with keywords does -/
def kwX (c : Nat → List D → Store → R D) (i : Nat) (p : List Nat) (ml mk : Sem1 (List D)) : Sem1 D := fun ρ S => (ml ρ S).noex.bind fun xs S1 => (mk ρ S1).noex.bind fun ys S2 => match p.mapM fun i => (xs ++ ys)[i]? with
  | some zs => c i zs S2
  | none => .no
theorem okX_callk {n : Nat} {ks : List Str} {p : List Nat} (F : FnG X.prog X.w X.K X.mg X.base k f fd ps (spOf X.K c i ps.length)) (hr : Room k X.A) (hG : X.A.guards = some []) (tk : L2.Takes X W) (hg : Gl X x) (hm : X.mg x = some (.ref f)) (hk : keepIn X.K (.ref f) = true) (hb : KwB X.K fd ps n ks p)
    (ha : OkL X (e :: es) ml) (hkw : OkK X kws mk) (hd : (x == ("__debug__" : Str)) = false) (hs : starEach (e :: es) X.env = (false, eval e X.env) :: starEach es X.env)
    (hall : (backToKw pos (keywordEach kws X.env)).all (·.1.isSome) = true) (hks : (backToKw pos (keywordEach kws X.env)).filterMap (·.1) = ks) (hpl : ((backTo pos (starEach (e :: es) X.env)).any (·.1) || (backToKw pos (keywordEach kws X.env)).any (·.1.isNone)) = false)
    (hn : ∀ ρ S xs S', ml ρ S = .ok xs S' → xs.length = n) (hn2 : ∀ ρ S xs S', mk ρ S = .ok xs S' → xs.length = ks.length) (har : ∀ ds S, (c i ds S).yes → ds.length = ps.length) :
    OkX X W (.Call (.Name x q) (e :: es) kws pos) (kwX c i p ml mk) := by
  refine ⟨fun pins s σ H Q I h => ?_⟩
  obtain ⟨T, ρ, S, rfl, so, re, p0⟩ := h
  unfold kwX at p0
  refine wpAny_Call_Name_kw (ld_glob I hg hm ?_ hd)
  have st : Post X.K T (ml ρ S) (kL X.K fun vs H1 => ∃ T1 xs S1, T1.H = H1 ∧ SOk X.K T1 S1 ∧ REnv X.K T1 ρ σ ∧ RepL X.K T1 xs vs ∧ xs.length = n ∧ PostX X.K (fun c d H' => W c d σ H') T1 ((mk ρ S1).noex.bind fun ys S2 => match p.mapM fun i => (xs ++ ys)[i]? with
      | some zs => c i zs S2
      | none => .no) (kV' X.K Q)) := by
    have p1 := p0.bind
    cases h : ml ρ S with
    | ok xs S1 =>
      rw [h] at p1
      exact fun T1 e1 s1 vs hvs => ⟨T1, xs, S1, rfl, s1, re.mono e1, hvs, hn _ _ _ _ h, p1 T1 e1 s1⟩
    | ex _ _ _ => rw [h] at p1; exact p1.elim
    | no => rw [h] at p1; exact p1.elim
  refine callWith_KW (h₀ := X.base) I.ok.mod.kin hk hall (thn (ha.run pos pins s σ T.H _ I (.mk so re st)) fun us s1 ⟨vs, H1, I1, r, q1⟩ => ?_) hpl hs
  obtain ⟨T1, xs, S1, rfl, so1, re1, rx, lx, p1⟩ := q1
  have st2 : Post X.K T1 (mk ρ S1) (kL X.K fun ws H2 => ∃ T2 ys S2, T2.H = H2 ∧ SOk X.K T2 S2 ∧ RepL X.K T2 xs vs ∧ RepL X.K T2 ys ws ∧ ys.length = ks.length ∧ PostX X.K (fun c d H' => W c d σ H') T2 (match p.mapM fun i => (xs ++ ys)[i]? with
      | some zs => c i zs S2
      | none => .no) (kV' X.K Q)) := by
    have p2 := p1.bind
    cases h : mk ρ S1 with
    | ok ys S2 =>
      rw [h] at p2
      exact fun T2 e2 s2 ws hws => ⟨T2, ys, S2, rfl, s2, rx.mono e2, hws, hn2 _ _ _ _ h, p2 T2 e2 s2⟩
    | ex _ _ _ => rw [h] at p2; exact p2.elim
    | no => rw [h] at p2; exact p2.elim
  refine thn (hkw.run pos pins s1 σ T1.H _ I1 (.mk so1 re1 st2)) fun zs s2 ⟨ws, H2, I2, rz, q2⟩ => ⟨I2.kIn, ?_⟩
  obtain ⟨T2, ys, S2, rfl, so2, rx2, ry, ly, p2⟩ := q2
  rw [hks]
  exact call_kw F hr hG tk hb har I2 so2 rx2 ry lx ly r rz p2
theorem okX_callk0 {ks : List Str} {p : List Nat} (F : FnG X.prog X.w X.K X.mg X.base k f fd ps (spOf X.K c i ps.length)) (hr : Room k X.A) (hG : X.A.guards = some []) (tk : L2.Takes X W) (hg : Gl X x) (hm : X.mg x = some (.ref f)) (hk : keepIn X.K (.ref f) = true) (hb : KwB X.K fd ps 0 ks p)
    (hkw : OkK X kws mk) (hd : (x == ("__debug__" : Str)) = false)
    (hall : (backToKw pos (keywordEach kws X.env)).all (·.1.isSome) = true) (hks : (backToKw pos (keywordEach kws X.env)).filterMap (·.1) = ks) (hpl : ((backTo pos (starEach [] X.env)).any (·.1) || (backToKw pos (keywordEach kws X.env)).any (·.1.isNone)) = false)
    (hn2 : ∀ ρ S xs S', mk ρ S = .ok xs S' → xs.length = ks.length) (har : ∀ ds S, (c i ds S).yes → ds.length = ps.length) :
    OkX X W (.Call (.Name x q) [] kws pos) (kwX c i p (fun _ S => .ok [] S) mk) := by
  refine ⟨fun pins s σ H Q I h => ?_⟩
  obtain ⟨T, ρ, S, rfl, so, re, p0⟩ := h
  refine wpAny_Call_Name_kw (ld_glob I hg hm ?_ hd)
  have p1 : PostX X.K (fun c d H' => W c d σ H') T ((mk ρ S).noex.bind fun ys S2 => match p.mapM fun i => ([] ++ ys)[i]? with
      | some zs => c i zs S2
      | none => .no) (kV' X.K Q) := p0
  have st2 : Post X.K T (mk ρ S) (kL X.K fun ws H2 => ∃ T2 ys S2, T2.H = H2 ∧ SOk X.K T2 S2 ∧ RepL X.K T2 ys ws ∧ ys.length = ks.length ∧ PostX X.K (fun c d H' => W c d σ H') T2 (match p.mapM fun i => ([] ++ ys)[i]? with
      | some zs => c i zs S2
      | none => .no) (kV' X.K Q)) := by
    have p2 := p1.bind
    cases h : mk ρ S with
    | ok ys S2 =>
      rw [h] at p2
      exact fun T2 e2 s2 ws hws => ⟨T2, ys, S2, rfl, s2, hws, hn2 _ _ _ _ h, p2 T2 e2 s2⟩
    | ex _ _ _ => rw [h] at p2; exact p2.elim
    | no => rw [h] at p2; exact p2.elim
  refine callWith_KW0 (h₀ := X.base) I.ok.mod.kin hk hall (thn (hkw.run pos pins s σ T.H _ I (.mk so re st2)) fun zs s2 ⟨ws, H2, I2, rz, q2⟩ => ⟨I2.kIn, ?_⟩) hpl
  obtain ⟨T2, ys, S2, rfl, so2, ry, ly, p2⟩ := q2
  rw [hks]
  exact call_kw (us := []) (vs := []) (xs := []) F hr hG tk hb har I2 so2 .nil ry rfl ly .nil rz p2
/-- no exception leaves it: the reading without exceptions -/
theorem okE_kw {p : List Nat} {x : Expr} (h : OkX X (fun _ _ _ _ => False) x (kwX c i p ml mk)) : OkE X x (fun ρ S => (ml ρ S).bind fun xs S1 => (mk ρ S1).bind fun ys S2 => match p.mapM fun i => (xs ++ ys)[i]? with
      | some zs => (c i zs S2).noex
      | none => .no) := by
  refine pe_weak (OkX.no h) fun σ H Q ⟨T, ρ, S, e1, s, r, p⟩ => ⟨T, ρ, S, e1, s, r, ?_⟩
  dsimp only at p ⊢
  unfold kwX
  cases h : ml ρ S with
  | ok xs S1 =>
    rw [h] at p
    simp only [R.bind_ok, R.noex_ok] at p ⊢
    cases h2 : mk ρ S1 with
    | ok ys S2 =>
      rw [h2] at p
      simp only [R.bind_ok, R.noex_ok] at p ⊢
      split at p
      · exact p
      · exact p.elim
    | ex _ _ _ => rw [h2] at p; exact p
    | no => rw [h2] at p; exact p
  | ex _ _ _ => rw [h] at p; exact p
  | no => rw [h] at p; exact p
/-- the program's functions, as values -/
structure FnVal (X : Cx) (c : Nat → List D → Store → R D) (y : Str) (j : Nat) : Prop where
  ex : ∃ (f : Addr) (fd : FuncData) (ps : List Str) (k : Nat), FnG X.prog X.w X.K X.mg X.base k f fd ps (spOf X.K c j ps.length) ∧ Room k X.A ∧ nsIn X.K mainGlobals y = some (some (.ref f)) ∧ X.mg y = some (.ref f) ∧ keepIn X.K (.ref f) = true ∧ Binds X.K fd ps [] ∧ ∀ ds S, (c j ds S).yes → ds.length = ps.length
/-- the callee is told by an expression -/
def isCal : Expr → Bool
  | .Name _ _ => true
  | .Subscript _ _ _ => true
  | _ => false
theorem eval_cal {ce : Expr} (h : isCal ce = true) (es : List Expr) (kws : List Keyword) (pos : Pos) (env : PySem.Env) : eval (.Call ce es kws pos) env = (do
    callWith pos (← eval ce env) [] (backTo pos (starEach es env)) (backToKw pos (keywordEach kws env))) := by
  cases ce <;> first | rfl | cases h
variable {ce : Expr} {me : Sem1 D} {tab : List (Str × Nat)}
theorem okX_cv (hG : X.A.guards = some []) (tk : L2.Takes X W) (hc : isCal ce = true) (hF : ∀ y j, tab.lookup y = some j → FnVal X c y j) (he : OkE X ce me)
    (ha : OkL X (e :: es) ml) (hs : starEach (e :: es) X.env = (false, eval e X.env) :: starEach es X.env) (hpl : (backTo pos (starEach es X.env)).any (·.1) = false) :
    OkX X W (.Call ce (e :: es) [] pos) (fun ρ S => (me ρ S).noex.bind fun x S1 => match fnD tab x with
      | some f => (ml ρ S1).noex.bind fun xs S2 => c f xs S2
      | none => .no) := by
  refine ⟨fun pins s σ H Q I h => ?_⟩
  obtain ⟨T, ρ, S, rfl, so, re, p⟩ := h
  rw [eval_cal hc]
  refine wpAny_bind (thn (he.run pins s σ T.H (fun v H1 => ∃ T1 S1 d, T1.H = H1 ∧ SOk X.K T1 S1 ∧ REnv X.K T1 ρ σ ∧ Rep X.K T1 d v ∧ PostX X.K (fun c d H' => W c d σ H') T1 (match fnD tab d with
      | some f => (ml ρ S1).noex.bind fun xs S2 => c f xs S2
      | none => .no) (kV' X.K Q)) I ⟨T, ρ, S, rfl, so, re, p.bind.imp fun d S1 T1 e1 s1 p1 v hv => ⟨T1, S1, d, rfl, s1, re.mono e1, hv, p1⟩⟩) fun u s1 ⟨v, H1, I1, ru, q1⟩ => ?_)
  obtain ⟨T1, S1, d, rfl, so1, re1, hv, p1⟩ := q1
  cases hd : fnD tab d with
  | none => rw [hd] at p1; exact p1.elim
  | some j =>
    rw [hd] at p1
    cases d with
    | fn y =>
      obtain ⟨f, fd, ps, k, F, hr, hn, hm, hk, hb, har⟩ := (hF y j hd).ex
      obtain ⟨a, rfl, hn2⟩ := hv.fn
      rw [hn] at hn2
      cases hn2
      obtain rfl : u = Value.ref f := ru
      exact core_call F hr hG tk hk hb ha hs hpl har I1 so1 re1 p1
    | _ => cases hd
theorem okE_cv (hG : X.A.guards = some []) (hc : isCal ce = true) (hF : ∀ y j, tab.lookup y = some j → FnVal X c y j) (he : OkE X ce me)
    (ha : OkL X (e :: es) ml) (hs : starEach (e :: es) X.env = (false, eval e X.env) :: starEach es X.env) (hpl : (backTo pos (starEach es X.env)).any (·.1) = false) :
    OkE X (.Call ce (e :: es) [] pos) (fun ρ S => (me ρ S).bind fun x S1 => match fnD tab x with
      | some f => (ml ρ S1).bind fun xs S2 => (c f xs S2).noex
      | none => .no) := by
  refine pe_weak (OkX.no (okX_cv hG L2.takes0 hc hF he ha hs hpl)) fun σ H Q ⟨T, ρ, S, e1, s, r, p⟩ => ⟨T, ρ, S, e1, s, r, ?_⟩
  dsimp only at p ⊢
  cases h : me ρ S with
  | ok x S1 =>
    rw [h] at p
    simp only [R.bind_ok, R.noex_ok] at p ⊢
    cases h2 : fnD tab x with
    | none => rw [h2] at p; exact p
    | some f =>
      rw [h2] at p
      dsimp only at p ⊢
      cases h3 : ml ρ S1 with
      | ok ys S2 => rw [h3] at p; exact p
      | ex _ _ _ => rw [h3] at p; exact p
      | no => rw [h3] at p; exact p
  | ex _ _ _ => rw [h] at p; exact p
  | no => rw [h] at p; exact p
end
end LH

namespace LH
open PySem PySem.W L2 PySem.Spec PyProof.Rows
/-! ## functions as values; exceptions that were caught -/
section
variable {X : Cx} {e : Expr} {me : Sem1 D} {x : Str} {pos q : Pos}
theorem okE_fnv {f : Addr} (hg : Gl X x) (hm : X.mg x = some (.ref f)) (hn : nsIn X.K mainGlobals x = some (some (.ref f))) (hd : (x == ("__debug__" : Str)) = false) : OkE X (.Name x pos) (fun _ S => .ok (.fn x) S) := by
  refine pe_weak (pe_glob (v := .ref f) hg hm rfl hd) ?_
  rintro σ H Q ⟨T, ρ, S, rfl, s, re, p⟩
  exact p.now s _ (by unfold Rep; exact ⟨f, rfl, hn⟩)
/-- the object of a kept exception -/
theorem kept_at {pins : List (Addr × Obj)} {σ : L2.St} {H : Hp} {s : Shared} {a dx C : Addr} {oe : Obj} {fs : List (Str × V)} (I : L2.Inv X pins σ H s) (h1 : H a = some (kept a oe)) (hz : L2.Zc (.ref C) (some dx) oe) (hf : ∃ vs, oe.data = .fields vs) (h2 : H dx = some (.xd fs)) :
    ∃ od, InstAt s.heap a oe C (some od) ∧ ∀ (n : Str) (v : V), fs.lookup n = some v → ∃ u, lookIn n od = some (some u) ∧ RelV v u := by
  have x : ObjOk X.prog X.w H s.heap a (kept a oe) := I.hok a _ h1
  have ha : s.heap.get? a = some oe := x.1
  have y : ObjOk X.prog X.w H s.heap dx (.xd fs) := I.hok dx _ h2
  obtain ⟨mA, hns, hr⟩ := y
  obtain ⟨od, ho, hl⟩ := lookIn_ns hns
  obtain ⟨vs, hd⟩ := hf
  refine ⟨od, ⟨ha, hz.1, by unfold PySem.W.notCls; rw [hd] <;> rfl, by rw [hz.2]; exact ho⟩, fun n v l => ?_⟩
  obtain ⟨u, hu, ru⟩ := RelO.some_of (v := v) (o := mA n) (by rw [← l]; exact hr n)
  exact ⟨u, by rw [hl, hu], ru⟩
theorem okE_val (he : OkE X e me) (hb : attributeBase e "value" X.env (eval e X.env) = eval e X.env) : OkE X (.Attribute e "value" pos) (fun ρ S => (me ρ S).bind fun x S1 => match x with
    | .exc _ v => .ok v S1
    | _ => .no) := by
  refine ⟨fun pins s σ H Q I h => ?_⟩
  obtain ⟨T, ρ, S, rfl, so, re, p⟩ := h
  refine attr_of hb (thn (he.run pins s σ T.H (fun v H1 => ∃ T1 S1 d, T1.H = H1 ∧ SOk X.K T1 S1 ∧ Rep X.K T1 d v ∧ Post X.K T1 (match d with
    | .exc _ v => .ok v S1
    | _ => .no) (kV' X.K Q)) I ⟨T, ρ, S, rfl, so, re, p.bind.imp fun d S1 T1 e1 s1 p1 v hv => ⟨T1, S1, d, rfl, s1, hv, p1⟩⟩) fun u s1 hh => ?_)
  obtain ⟨v, H1, I1, ru, T1, S1, d, rfl, so1, hv, p1⟩ := hh
  cases d with
  | exc k d =>
    obtain ⟨a, dx, C, oe, fs, v2, rfl, _, o1, z, hf, xk, _, o2, l, r2⟩ := hv.exc
    obtain rfl : u = Value.ref a := ru
    obtain ⟨od, J, look⟩ := kept_at I1 o1 z hf o2
    obtain ⟨u2, hu, ru2⟩ := look _ _ l
    obtain ⟨D, fI, xc, _⟩ := xk.cls
    exact HandSPX.exc_get I1.kIn J xc.ga xc.gg xc.exC (PySem.W.findObj_own xc.hd xc.va rfl hu) (handed_of ru2) ⟨v2, T1.H, I1.tok _, ru2, p1.now so1 _ r2⟩
  | _ => exact p1.elim
/-- isinstance(x, c), c a class of the program's own exceptions or ValueError -/
def rIsx (K : Frag) : List V → Hp → VK → Prop := fun xs H Q => rIsi K xs H Q ∨ ∃ (a dx C : Addr) (oe : Obj) (fs : List (Str × V)) (k : Nat) (cv : V) (u : Value) (b : Bool), xs = [.ref a, cv] ∧ ClsV cv u ∧ H a = some (kept a oe) ∧ L2.Zc (.ref C) (some dx) oe ∧ (∃ vs, oe.data = .fields vs) ∧ H dx = some (.xd fs) ∧ XKn K k C ∧ kitOne K (.ref C) u = some b ∧ Q (.bl b) H
theorem call_isx : CallR X (.builtin "isinstance") (rIsx X.K) := by
  intro pins s σ H xs us Q I r h
  rcases h with h | ⟨a, dx, C, oe, fs, k, cv, u, b, rfl, kc, o1, z, hf, o2, xk, e, q⟩
  · exact call_isi pins s σ H xs us Q I r h
  · obtain ⟨u1, u2, rfl, r1, r2⟩ := vals2 r
    have e2 := kc.eq r2
    subst e2
    obtain rfl : u1 = Value.ref a := r1
    obtain ⟨od, J, _⟩ := kept_at I o1 z hf o2
    obtain ⟨D, fI, xc, _⟩ := xk.cls
    exact PySem.W.kia_one (PySem.W.kitx_exc xk.data.1 xc.ga xc.gg xc.exC xc.cl xc.sp xc.tk xc.mo) I.kIn J e (fun z => nomatch z) fun tk => ⟨.bl b, H, I.tok tk, rfl, q⟩
/-- the class that is asked for -/
inductive IsC (X : Cx) : Expr → Option Nat → V → Value → Prop where
  | own {j : Nat} {C : Addr} {y : Str} {q : Pos} (hy : y = xName j) (h : j ≠ 0) (hg : Gl X y) (hm : X.mg y = some (.ref C)) (k : XKn X.K j C) (hd : (y == ("__debug__" : Str)) = false) : IsC X (.Name y q) (some j) (.ref C) (.ref C)
  | top {C : Addr} {y : Str} {q : Pos} (hy : y = xName 0) (hg : Gl X y) (hm : X.mg y = some (.ref C)) (k : XTop X.K C) (hd : (y == ("__debug__" : Str)) = false) : IsC X (.Name y q) (some 0) (.ref C) (.ref C)
  | val {q : Pos} (hg : Gl X "ValueError") (hm : X.mg "ValueError" = none) : IsC X (.Name "ValueError" q) none (.ty "ValueError") (.type "ValueError")
theorem okE_isx {ce : Expr} {c : Option Nat} {cv : V} {cu : Value} (he : OkE X e me) (hc : IsC X ce c cv cu) (hg : Gl X "isinstance") (hm : X.mg "isinstance" = none) (hst : starEach [e, ce] X.env = (false, eval e X.env) :: starEach [ce] X.env) (hst2 : starEach [ce] X.env = (false, eval ce X.env) :: starEach [] X.env) :
    OkE X (.Call (.Name "isinstance" q) [e, ce] [] pos) (fun ρ S => (me ρ S).bind fun x S1 => .opt ((isxD c x).map .bl) S1) := by
  have pc : PE X ce (tC cv) := by
    cases hc with
    | own hy h hg hm k hd => exact pe_glob hg hm rfl hd
    | top hy hg hm k hd => exact pe_glob hg hm rfl hd
    | val hg hm => exact pe_bltn hg hm (u := .type "ValueError") (by decide +kernel) rfl (by decide +kernel) (by decide +kernel)
  have kc : ClsV cv cu := by
    cases hc with
    | own => exact .own _
    | top => exact .own _
    | val => exact .ty _
  refine pe_weak (pe_callB call_isx hg hm (by decide +kernel) (pa_cons he (pa_cons pc pa_nil hst2) hst) (by decide +kernel) (by decide +kernel) hst (by rw [hst2]; rfl)) ?_
  rintro σ H Q ⟨T, ρ, S, rfl, s, re, p⟩
  refine .mk s re (p.bind.imp fun d S1 T1 e1 s1 p1 v hv => ?_)
  cases hd : isxD c d with
  | none => rw [hd] at p1; exact p1.elim
  | some b =>
    rw [hd] at p1
    have q1 : Q (.bl b) T1.H := p1.now s1 _ Rep.mk_bl
    show rIsx X.K [v, cv] T1.H Q
    cases d with
    | non =>
      cases hd
      left
      refine ⟨v, cv, .type "NoneType", cu, false, rfl, kc, .base (by rw [hv.non]; exact .non), ?_, q1⟩
      cases hc with
      | own hy h hg hm k hd => exact kit_nx k.data.1 k.data.2
      | top hy hg hm k hd => exact kit_nx k.cls k.ty
      | val hg hm => exact kit_nv
    | exc k d =>
      obtain ⟨a, dx, C, oe, fs, v2, rfl, _, o1, z, hf, xk, _, o2, l, r2⟩ := hv.exc
      right
      refine ⟨a, dx, C, oe, fs, k, cv, cu, b, rfl, kc, o1, z, hf, o2, xk, ?_, q1⟩
      cases hc with
      | @own j C2 y q hy h hg hm k2 _ =>
        cases j with
        | zero => exact absurd rfl h
        | succ j =>
          simp only [isxD, Option.some.injEq] at hd
          subst hd
          exact kit_xx xk k2
      | top hy hg hm k2 _ => cases hd; exact kit_xt xk k2
      | val hg hm => cases hd; exact kit_xv xk
    | _ => cases hd
end
end LH

namespace LH
open PySem PySem.W L2 PySem.Spec PyProof.Rows
/-! ## targets -/
/-- the slots outside g as they were -/
def Out (l : List Nat) (σ σ' : L2.St) : Prop := σ'.length = σ.length ∧ ∀ i, i ∉ l → σ'[i]? = σ[i]?
theorem Out.refl (l : List Nat) (σ : L2.St) : Out l σ σ := ⟨rfl, fun _ _ => rfl⟩
theorem Out.trans {l m : List Nat} {a b c : L2.St} (x : Out l a b) (y : Out m b c) : Out (l ++ m) a c :=
  ⟨y.1.trans x.1, fun i h => (y.2 i fun z => h (List.mem_append_right _ z)).trans (x.2 i fun z => h (List.mem_append_left _ z))⟩
def gG (K : Frag) (g : G) : TG := fun v σ H Q => ∃ T S ρ d ρ', T.H = H ∧ SOk K T S ∧ REnv K T ρ σ ∧ Rep K T d v ∧ asgG g d ρ = some ρ' ∧ ∀ σ', REnv K T ρ' σ' → Out g.slots σ σ' → Q σ' H
def gL (K : Frag) (g : G) : TGs := fun vs σ H Q => ∃ T S ρ ds ρ', T.H = H ∧ SOk K T S ∧ REnv K T ρ σ ∧ RepL K T ds vs ∧ asgL g ds ρ = some ρ' ∧ ∀ σ', REnv K T ρ' σ' → Out g.slots σ σ' → Q σ' H
theorem pg_weak {X : Cx} {e : Expr} {t t' : TG} (h : PG X e t) (f : ∀ v σ H Q, t' v σ H Q → t v σ H Q) : PG X e t' := ⟨fun pins s σ H v u Q I r q => h.run pins s σ H v u Q I r (f v σ H Q q)⟩
theorem pgs_weak {X : Cx} {e : List Expr} {t t' : TGs} (h : PGs X e t) (f : ∀ v σ H Q, t' v σ H Q → t v σ H Q) : PGs X e t' := ⟨fun pins s σ H v u Q I r q => h.run pins s σ H v u Q I r (f v σ H Q q)⟩
theorem REnv.set {K : Frag} {T : Tr} {ρ : Env} {σ : L2.St} (h : REnv K T ρ σ) (i : Nat) {d : D} {v : V} (r : Rep K T d v) : REnv K T (ρ.set i (some d)) (σ.set i (some v)) := by
  refine ⟨by rw [List.length_set, List.length_set]; exact h.1, fun j e q => ?_⟩
  by_cases hj : i = j
  · subst hj
    have hl : i < ρ.length := by
      have := (List.getElem?_eq_some_iff.mp q).1
      simpa using this
    rw [List.getElem?_set_self hl] at q
    cases q
    exact ⟨v, List.getElem?_set_self (by rw [← h.1]; exact hl), r⟩
  · rw [List.getElem?_set_ne hj] at q ⊢
    exact h.2 j e q
section
variable {X : Cx} {pos : Pos}
theorem okG_nm {i : Nat} {x : Str} (hN : X.N.Nodup) (hi : X.N[i]? = some x) (hx : Loc X.env.scope x) (hf : X.fn x = true ∨ X.env.scope.names.lookup x = some .local) : PG X (.Name x pos) (gG X.K (.nm i)) := by
  refine pg_weak (pg_name hN hi hx hf) ?_
  rintro v σ H Q ⟨T, S, ρ, d, ρ', rfl, s, re, rv, e, q⟩
  simp only [asgG, Option.some.injEq] at e
  subst e
  refine q _ (re.set i rv) ⟨List.length_set, fun j hj => List.getElem?_set_ne fun z => hj (by simp [G.slots, z])⟩
theorem okG_nil : PGs X [] (gL X.K .nil) := by
  refine pgs_weak pgs_nil ?_
  rintro v σ H Q ⟨T, S, ρ, d, ρ', rfl, s, re, rv, e, q⟩
  cases d with
  | nil =>
    simp only [asgL, Option.some.injEq] at e
    subst e
    exact ⟨rv.nil_inv, q σ re (Out.refl _ _)⟩
  | cons _ _ => simp [asgL] at e
theorem okG_cons {e : Expr} {es : List Expr} {a r : G} (h1 : PG X e (gG X.K a)) (h2 : PGs X es (gL X.K r)) (he : (assignEach (e :: es) X.env).map (·.2) = assign e X.env :: (assignEach es X.env).map (·.2)) : PGs X (e :: es) (gL X.K (.cons a r)) := by
  refine pgs_weak (pgs_cons h1 h2 he) ?_
  rintro v σ H Q ⟨T, S, ρ, d, ρ', rfl, s, re, rv, e, q⟩
  cases d with
  | nil => simp [asgL] at e
  | cons x xs =>
    simp only [asgL, Option.bind_eq_some_iff] at e
    obtain ⟨ρ1, e1, e2⟩ := e
    obtain ⟨v1, vr, rfl, r1, r2⟩ := rv.cons_inv
    refine ⟨v1, vr, rfl, T, S, ρ, x, ρ1, rfl, s, re, r1, e1, fun σ1 re1 o1 => ⟨T, S, ρ1, xs, ρ', rfl, s, re1, r2, e2, fun σ2 re2 o2 => q σ2 re2 ?_⟩⟩
    have := o1.trans o2
    simpa only [G.slots] using this
theorem asgL_len : ∀ {r : G} {ds : List D} {ρ ρ' : Env}, asgL r ds ρ = some ρ' → ∀ {n : Nat}, (∀ ds' ρ1 ρ2, asgL r ds' ρ1 = some ρ2 → ds'.length = n) → ds.length = n := fun h _ f => f _ _ _ h
/-- how many -/
def G.len : G → Nat
  | .cons _ r => r.len + 1
  | _ => 0
theorem asgL_length : ∀ {r : G} {ds : List D} {ρ ρ' : Env}, asgL r ds ρ = some ρ' → ds.length = r.len
  | .nil, [], _, _, _ => rfl
  | .nil, _ :: _, _, _, h => by simp [asgL] at h
  | .cons a r, [], _, _, h => by simp [asgL] at h
  | .cons a r, x :: xs, _, _, h => by
    simp only [asgL, Option.bind_eq_some_iff] at h
    obtain ⟨ρ1, _, e2⟩ := h
    simp [G.len, asgL_length e2]
  | .nm _, ds, _, _, h => by cases ds <;> simp [asgL] at h
  | .tp _, ds, _, _, h => by cases ds <;> simp [asgL] at h
theorem okG_tp {es : List Expr} {k : Nat} {r : G} (hc : X.calm = true) (h : PGs X es (gL X.K r)) (hn : (assignEach es X.env).length = r.len) (hst : (assignEach es X.env).findIdx? (·.1) = none) : PG X (.Tuple es k pos) (gG X.K (.tp r)) := by
  refine pg_weak (pg_tup hc h hn hst) ?_
  rintro v σ H Q ⟨T, S, ρ, d, ρ', rfl, s, re, rv, e, q⟩
  cases d with
  | tup ds =>
    simp only [asgG] at e
    obtain ⟨a, vs, rfl, _, ea, r2⟩ := rv.tup
    refine ⟨a, vs, rfl, SqT.of ea, ?_, T, S, ρ, ds, ρ', rfl, s, re, r2, e, fun σ' re' o => q σ' re' ?_⟩
    · rw [← r2.length]; exact asgL_length e
    · simpa only [G.slots] using o
  | _ => simp [asgG] at e
/-! ## what is walked -/
/-- the iterator J yields what src says -/
structure WalkOk (K : Frag) (T0 : Tr) (src : Src) (J : It) : Prop where
  go : ∀ i x, src.items[i]? = some x → ∀ T S y, Sub T0 T → SOk K T S → src.cur i x S = some y → J.go i T.H ∧ ∀ v H', J.yld i T.H v H' → ∃ T', T'.H = H' ∧ Ext T T' ∧ SOk K T' S ∧ Rep K T' y v
  stop : ∀ T S S', Sub T0 T → SOk K T S → src.fin src.items.length S = some S' → J.stop src.items.length T.H
def tI (K : Frag) (m : Sem1 Src) : TI := fun σ H R => ∃ T ρ S, T.H = H ∧ SOk K T S ∧ REnv K T ρ σ ∧ Post K T (m ρ S) fun src _ T' => ∀ J, WalkOk K T' src J → R J T'.H
abbrev OkI (X : Cx) (tg it : Expr) (m : Sem1 Src) : Prop := PI X tg it (tI X.K m)
theorem pi_weak {X : Cx} {tg e : Expr} {t t' : TI} (h : PI X tg e t) (f : ∀ σ H Q, t' σ H Q → t σ H Q) : PI X tg e t' := ⟨fun pins s σ H Q I q => h.run pins s σ H Q I (f σ H Q q)⟩
theorem pi_or {X : Cx} {tg e : Expr} {t t' : TI} (h : PI X tg e t) (h' : PI X tg e t') : PI X tg e (fun σ H R => t σ H R ∨ t' σ H R) := ⟨fun pins s σ H R I q => by
  rcases q with q | q
  · exact h.run pins s σ H R I q
  · exact h'.run pins s σ H R I q⟩
theorem Sub.lst {T T' : Tr} (e : Sub T T') {a : Addr} {u : HO} (f : T.fr a) (h : T.H a = some u) (hu : ¬ IsDict u) : T'.H a = some u := (e.hp a u f h).resolve_right fun z => hu z.1
theorem Ext.lst {T T' : Tr} (e : Ext T T') {a : Addr} {u : HO} (f : T.fr a) (h : T.H a = some u) (hu : ¬ IsDict u) : T'.H a = some u := (e.hp a u f h).resolve_right fun z => hu z.1
theorem sql_inj {K : Frag} {H : Hp} {a : Addr} {xs ys : List V} (h : H a = some (.lst xs)) (g : SqL K H a ys) (hk : K.lookup a = none) : ys = xs := by
  rcases g with (g | ⟨o, g⟩) | ⟨o, its, n, g, _⟩
  · rw [h] at g; cases g; rfl
  · rw [h] at g; cases g
  · rw [hk] at g; cases g
end
end LH

namespace LH
open PySem PySem.W L2 PySem.Spec PyProof.Rows
section
variable {K : Frag} {T : Tr}
theorem walk_list {a : Addr} {vs : List V} {xs : List D} (f : T.fr a) (h : T.H a = some (.lst vs)) (r : RepL K T xs vs) : WalkOk K T (.fix xs) (Itl K a) where
  go := fun i x e T' S y ex so c => by
    cases c
    obtain ⟨v, ev, rv⟩ := RepL.get r e
    have hq : SqL K T'.H a vs := SqL.of (ex.lst f h fun z => z)
    refine ⟨⟨vs, v, hq, ev⟩, fun v' H' hy => ?_⟩
    obtain ⟨rfl, hy⟩ := hy
    have := hy vs hq
    rw [ev] at this
    cases this
    exact ⟨T', rfl, .refl _, so, rv.sub ex⟩
  stop := fun T' S S' ex so c => ⟨vs, SqL.of (ex.lst f h fun z => z), by rw [← r.length]; exact Nat.le_refl _⟩
theorem walk_tup {a : Addr} {vs : List V} {xs : List D} (f : T.fr a) (h : T.H a = some (.tup vs)) (r : RepL K T xs vs) : WalkOk K T (.fix xs) (Itt K a) where
  go := fun i x e T' S y ex so c => by
    cases c
    obtain ⟨v, ev, rv⟩ := RepL.get r e
    have hq : SqT K T'.H a vs := SqT.of (ex.lst f h fun z => z)
    refine ⟨⟨vs, v, hq, ev⟩, fun v' H' hy => ?_⟩
    obtain ⟨rfl, hy⟩ := hy
    have := hy vs hq
    rw [ev] at this
    cases this
    exact ⟨T', rfl, .refl _, so, rv.sub ex⟩
  stop := fun T' S S' ex so c => ⟨vs, SqT.of (ex.lst f h fun z => z), by rw [← r.length]; exact Nat.le_refl _⟩
theorem walk_str {x : Str} : WalkOk K T (.fix (x.cps.toList.map fun c => .str ⟨#[c]⟩)) (Its x) where
  go := fun i d e T' S y ex so c => by
    cases c
    have e : (x.cps.toList.map fun c => D.str ⟨#[c]⟩)[i]? = some d := e
    rw [List.getElem?_map] at e
    cases hc : x.cps.toList[i]? with
    | none => rw [hc] at e; cases e
    | some c =>
      rw [hc] at e
      cases e
      have hc' : x.cps[i]? = some c := by simpa using hc
      refine ⟨(Array.getElem?_eq_some_iff.mp hc').1, fun v' H' hy => ?_⟩
      obtain ⟨rfl, c', e1, rfl⟩ := hy
      rw [hc'] at e1
      cases e1
      exact ⟨T', rfl, .refl _, so, by unfold Rep; rfl⟩
  stop := fun T' S S' ex so c => by
    show x.cps.size ≤ _
    simp [Src.items]
theorem walk_rng {lo hi : Int} : WalkOk K T (.fix (rngD lo hi)) (Itr lo (hi - lo).toNat) where
  go := fun i d e T' S y ex so c => by
    cases c
    unfold rngD at e
    have e : ((List.range (hi - lo).toNat).map fun (k : Nat) => D.int (lo + k))[i]? = some d := e
    rw [List.getElem?_map] at e
    cases hc : (List.range (hi - lo).toNat)[i]? with
    | none => rw [hc] at e; cases e
    | some c =>
      rw [hc] at e
      cases e
      obtain ⟨hl, hv⟩ := List.getElem?_eq_some_iff.mp hc
      simp at hl hv
      subst hv
      refine ⟨by show i < _; simpa using hl, fun v' H' hy => ?_⟩
      obtain ⟨rfl, rfl⟩ := hy
      exact ⟨T', rfl, .refl _, so, by unfold Rep; rfl⟩
  stop := fun T' S S' ex so c => by
    show (hi - lo).toNat ≤ _
    simp [Src.items, rngD]
theorem walk_enum {a : Addr} {vs : List V} {xs : List D} (f : T.fr a) (h : T.H a = some (.lst vs)) (r : RepL K T xs vs) : WalkOk K T (.fix ((List.range xs.length).zip xs |>.map fun p => .tup [.int (p.1 : Nat), p.2])) (Ite K a) where
  go := fun i x e T' S y ex so c => by
    cases c
    have hq : SqL K T'.H a vs := SqL.of (ex.lst f h fun z => z)
    have e : ((List.range xs.length).zip xs |>.map fun p => D.tup [.int (p.1 : Nat), p.2])[i]? = some x := e
    rw [List.getElem?_map] at e
    cases hc : ((List.range xs.length).zip xs)[i]? with
    | none => rw [hc] at e; cases e
    | some p =>
      rw [hc] at e
      cases e
      obtain ⟨h1, h2⟩ := List.getElem?_zip_eq_some.mp hc
      obtain ⟨hl, hv⟩ := List.getElem?_eq_some_iff.mp h1
      simp at hl hv
      obtain ⟨v, ev, rv⟩ := RepL.get r h2
      refine ⟨⟨vs, v, hq, ev⟩, fun v' H' hy => ?_⟩
      obtain ⟨p', x', rfl, hp, rfl, hy⟩ := hy
      have := hy vs hq
      rw [ev] at this
      cases this
      refine ⟨T'.putF p' (.tup [.int (i : Nat), v]), rfl, ext_putF so hp, sok_putF so hp, ?_⟩
      unfold Rep
      refine ⟨p', _, rfl, .inr rfl, upd_same, .cons ?_ (.cons ((rv.sub ex).mono (ext_putF so hp)) .nil)⟩
      unfold Rep
      rw [hv]
  stop := fun T' S S' ex so c => ⟨vs, SqL.of (ex.lst f h fun z => z), by rw [← r.length]; simp [Src.items]⟩
theorem walk_zip {a b : Addr} {vs us : List V} {xs ys : List D} (f : T.fr a) (h : T.H a = some (.lst vs)) (r : RepL K T xs vs) (f2 : T.fr b) (h2 : T.H b = some (.lst us)) (r2 : RepL K T ys us) : WalkOk K T (.fix ((xs.zip ys).map fun p => .tup [p.1, p.2])) (Itz K a b) where
  go := fun i x e T' S y ex so c => by
    cases c
    have hq : SqL K T'.H a vs := SqL.of (ex.lst f h fun z => z)
    have hq2 : SqL K T'.H b us := SqL.of (ex.lst f2 h2 fun z => z)
    have e : ((xs.zip ys).map fun p => D.tup [p.1, p.2])[i]? = some x := e
    rw [List.getElem?_map] at e
    cases hc : (xs.zip ys)[i]? with
    | none => rw [hc] at e; cases e
    | some p =>
      rw [hc] at e
      cases e
      obtain ⟨g1, g2⟩ := List.getElem?_zip_eq_some.mp hc
      obtain ⟨v, ev, rv⟩ := RepL.get r g1
      obtain ⟨u, eu, ru⟩ := RepL.get r2 g2
      refine ⟨⟨vs, us, v, u, hq, hq2, ev, eu⟩, fun v' H' hy => ?_⟩
      obtain ⟨p', x', y', rfl, hp, rfl, hy, hy2⟩ := hy
      have t1 := hy vs hq
      have t2 := hy2 us hq2
      rw [ev] at t1
      rw [eu] at t2
      cases t1
      cases t2
      refine ⟨T'.putF p' (.tup [v, u]), rfl, ext_putF so hp, sok_putF so hp, ?_⟩
      unfold Rep
      exact ⟨p', _, rfl, .inr rfl, upd_same, .cons ((rv.sub ex).mono (ext_putF so hp)) (.cons ((ru.sub ex).mono (ext_putF so hp)) .nil)⟩
  stop := fun T' S S' ex so c => ⟨vs, us, SqL.of (ex.lst f h fun z => z), SqL.of (ex.lst f2 h2 fun z => z), by
    rw [← r.length, ← r2.length]
    simp only [Src.items, List.length_map, List.length_zip]
    omega⟩
theorem walk_zipT {a b : Addr} {vs us : List V} {xs ys : List D} (f : T.fr a) (h : T.H a = some (.tup vs)) (r : RepL K T xs vs) (f2 : T.fr b) (h2 : T.H b = some (.tup us)) (r2 : RepL K T ys us) : WalkOk K T (.fix ((xs.zip ys).map fun p => .tup [p.1, p.2])) (RZ.ItzT K a b) where
  go := fun i x e T' S y ex so c => by
    cases c
    have hq : SqT K T'.H a vs := SqT.of (ex.lst f h fun z => z)
    have hq2 : SqT K T'.H b us := SqT.of (ex.lst f2 h2 fun z => z)
    have e : ((xs.zip ys).map fun p => D.tup [p.1, p.2])[i]? = some x := e
    rw [List.getElem?_map] at e
    cases hc : (xs.zip ys)[i]? with
    | none => rw [hc] at e; cases e
    | some p =>
      rw [hc] at e
      cases e
      obtain ⟨g1, g2⟩ := List.getElem?_zip_eq_some.mp hc
      obtain ⟨v, ev, rv⟩ := RepL.get r g1
      obtain ⟨u, eu, ru⟩ := RepL.get r2 g2
      refine ⟨⟨vs, us, v, u, hq, hq2, ev, eu⟩, fun v' H' hy => ?_⟩
      obtain ⟨p', x', y', rfl, hp, rfl, hy, hy2⟩ := hy
      have t1 := hy vs hq
      have t2 := hy2 us hq2
      rw [ev] at t1
      rw [eu] at t2
      cases t1
      cases t2
      refine ⟨T'.putF p' (.tup [v, u]), rfl, ext_putF so hp, sok_putF so hp, ?_⟩
      unfold Rep
      exact ⟨p', _, rfl, .inr rfl, upd_same, .cons ((rv.sub ex).mono (ext_putF so hp)) (.cons ((ru.sub ex).mono (ext_putF so hp)) .nil)⟩
  stop := fun T' S S' ex so c => ⟨vs, us, SqT.of (ex.lst f h fun z => z), SqT.of (ex.lst f2 h2 fun z => z), by
    rw [← r.length, ← r2.length]
    simp only [Src.items, List.length_map, List.length_zip]
    omega⟩
theorem walk_live {n : Nat} {xs : List D} (hn : n < T.N) : WalkOk K T (.live n xs) (Itl K (T.mu n)) where
  go := fun i x e T' S y ex so c => by
    simp only [Src.cur] at c
    split at c
    · rename_i ys hS
      have o := so.ob n _ hS
      rw [ex.mu n hn] at o
      obtain ⟨_, _, vs, eH, r⟩ := o
      obtain ⟨v, ev, rv⟩ := RepL.get r c
      refine ⟨⟨vs, v, SqL.of eH, ev⟩, fun v' H' hy => ?_⟩
      obtain ⟨rfl, hy⟩ := hy
      have := hy vs (SqL.of eH)
      rw [ev] at this
      cases this
      exact ⟨T', rfl, .refl _, so, rv⟩
    · cases c
  stop := fun T' S S' ex so c => by
    simp only [Src.fin] at c
    split at c
    · rename_i ys hS
      have o := so.ob n _ hS
      rw [ex.mu n hn] at o
      obtain ⟨_, _, vs, eH, r⟩ := o
      split at c
      · rename_i hl
        exact ⟨vs, SqL.of eH, by rw [← r.length]; exact hl⟩
      · cases c
    · cases c
/-- two lists at once, live or not -/
theorem walk_zipl {S0 : Store} {da db : D} {va vb : V} {a b : Addr} {xs ys : List D} (s0 : SOk K T S0) (ra : Rep K T da va) (rb : Rep K T db vb) (ha : lstD S0 da = some xs) (hb : lstD S0 db = some ys) (ea : va = .ref a) (eb : vb = .ref b) : WalkOk K T (.zipl da db ((xs.zip ys).map fun p => .tup [p.1, p.2])) (Itz K a b) where
  go := fun i x e T' S y ex so c => by
    simp only [Src.cur] at c
    split at c
    · rename_i xs' ys' h1 h2
      simp only [Option.bind_eq_some_iff, Option.map_eq_some_iff] at c
      obtain ⟨x1, g1, y1, g2, rfl⟩ := c
      obtain ⟨a', vs, z, eH, r⟩ := lstD_rep so (ra.sub ex) h1
      rw [ea] at z
      cases z
      obtain ⟨b', us, z, eH2, r2⟩ := lstD_rep so (rb.sub ex) h2
      rw [eb] at z
      cases z
      obtain ⟨v, ev, rv⟩ := RepL.get r g1
      obtain ⟨u, eu, ru⟩ := RepL.get r2 g2
      refine ⟨⟨vs, us, v, u, SqL.of eH, SqL.of eH2, ev, eu⟩, fun v' H' hy => ?_⟩
      obtain ⟨p', x', y', rfl, hp, rfl, hy, hy2⟩ := hy
      have t1 := hy vs (SqL.of eH)
      have t2 := hy2 us (SqL.of eH2)
      rw [ev] at t1
      rw [eu] at t2
      cases t1
      cases t2
      refine ⟨T'.putF p' (.tup [v, u]), rfl, ext_putF so hp, sok_putF so hp, ?_⟩
      unfold Rep
      exact ⟨p', _, rfl, .inr rfl, upd_same, .cons (rv.mono (ext_putF so hp)) (.cons (ru.mono (ext_putF so hp)) .nil)⟩
    · cases c
  stop := fun T' S S' ex so c => by
    simp only [Src.fin] at c
    split at c
    · rename_i xs' ys' h1 h2
      obtain ⟨a', vs, z, eH, r⟩ := lstD_rep so (ra.sub ex) h1
      rw [ea] at z
      cases z
      obtain ⟨b', us, z, eH2, r2⟩ := lstD_rep so (rb.sub ex) h2
      rw [eb] at z
      cases z
      split at c
      · rename_i hl
        exact ⟨vs, us, SqL.of eH, SqL.of eH2, by rw [← r.length, ← r2.length]; exact hl⟩
      · cases c
    · cases c
theorem walk_rngR {j : Int} : WalkOk K T (.fix (rngD 0 j).reverse) (Itc (0 + (((j - 0).toNat : Nat) : Int) - 1) (-1) (j - 0).toNat) where
  go := fun i d e T' S y ex so c => by
    cases c
    have e : (rngD 0 j).reverse[i]? = some d := e
    have hi : i < (rngD 0 j).length := by
      have := (List.getElem?_eq_some_iff.mp e).1
      simpa using this
    have hl : (rngD 0 j).length = (j - 0).toNat := by simp [rngD]
    rw [List.getElem?_reverse hi] at e
    unfold rngD at e
    rw [List.getElem?_map] at e
    simp only [List.length_map, List.length_range] at e
    rw [List.getElem?_range (by omega)] at e
    cases e
    refine ⟨by show i < _; omega, fun v' H' hy => ?_⟩
    obtain ⟨rfl, rfl⟩ := hy
    refine ⟨T', rfl, .refl _, so, ?_⟩
    unfold Rep
    congr 1
    omega
  stop := fun T' S S' ex so c => by
    show (j - 0).toNat ≤ _
    simp [Src.items, rngD]
end
/-! ## dicts walked: they are locked for good -/
theorem keys_rep {K : Frag} {T : Tr} : ∀ (k : Key), Rep K T (KY.k k).d (kV k)
  | .inl i => by unfold KY.d Rep; rfl
  | .inr x => by unfold KY.d Rep; rfl
theorem keysT_rep {K : Frag} {T : Tr} : ∀ (ks : List Key), RepL K T (ks.map fun
    | .inl i => D.int i
    | .inr x => D.str x) (ks.map kV)
  | [] => .nil
  | .inl i :: ks => .cons (by unfold Rep; rfl) (keysT_rep ks)
  | .inr x :: ks => .cons (by unfold Rep; rfl) (keysT_rep ks)
section
variable {K : Frag} {T : Tr}
theorem frz_stay {T' : Tr} (e : Sub T T') {a : Addr} {o : Obj} {u : HO} (f : T.fr a) (h : T.H a = some (.frz o u)) : T'.H a = some (.frz o u) := e.lst f h fun z => z
/-- a thing that never changes is noted as such -/
def Tr.addF (T : Tr) (q : Addr) : Tr := { T with fr := fun a => T.fr a ∨ a = q }
theorem ext_addF {q : Addr} {xs : List V} {S : Store} (s : SOk K T S) (h : T.H q = some (.tup xs)) : Ext T (T.addF q) where
  fr := fun _ h => .inl h
  hp := fun _ _ _ r => .inl r
  pr := fun a p => ⟨p, rfl, fun z => z.resolve_right fun e => s.prk a _ p (e ▸ h) xs rfl⟩
  mu := fun _ _ => rfl
  N := Nat.le_refl _
theorem sok_addF {q : Addr} {xs : List V} {S : Store} (s : SOk K T S) (h : T.H q = some (.tup xs)) : SOk K (T.addF q) S where
  len := s.len
  ob := fun n o ho => by
    have z := s.ob n o ho
    have ne : (∃ vs, T.H (T.mu n) = some (.lst vs)) ∨ (∃ u t ks vs, T.H (T.mu n) = some u ∧ DK u t ks vs) → T.mu n ≠ q := fun z e => by
      rw [e, h] at z
      rcases z with ⟨vs, z⟩ | ⟨u, t, ks, vs, z, k⟩
      · cases z
      · cases z
        rcases k with ⟨_, kv, z, _⟩ | ⟨_, kv, z, _⟩ <;> cases z
    cases o with
    | lst xs =>
      obtain ⟨h1, h2, vs, h3, r⟩ := z
      exact ⟨fun z => z.elim h1 (ne (.inl ⟨_, h3⟩)), h2, vs, h3, r.mono (ext_addF s h)⟩
    | dct t kvs =>
      obtain ⟨h1, h2, u, vs, h3, dk, r⟩ := z
      exact ⟨fun z => z.elim h1 (ne (.inr ⟨_, _, _, _, h3, dk⟩)), h2, u, vs, h3, dk, r.mono (ext_addF s h)⟩
    | lk t kvs =>
      obtain ⟨h1, od, u, vs, h3, dk, r⟩ := z
      exact ⟨.inl h1, od, u, vs, h3, dk, r.mono (ext_addF s h)⟩
    | dead => trivial
  inj := s.inj
  frn := fun a z => by
    rcases z with z | z
    · exact s.frn a z
    · show T.H a ≠ none
      rw [z, h]; simp
  prn := s.prn
  prk := s.prk
  dis := fun a p z => z.elim (s.dis a p) fun e => s.prk a _ p (e ▸ h) xs rfl
theorem walk_keys {a : Addr} {o : Obj} {kvs : List (Key × V)} {ds : List D} (f : T.fr a) (h : T.H a = some (.frz o (.dK kvs))) (hd : ds = kvs.map fun p => (KY.k p.1).d) : WalkOk K T (.fix ds) (Itk a o kvs) where
  go := fun i x e T' S y ex so c => by
    cases c
    subst hd
    have e : (kvs.map fun p => (KY.k p.1).d)[i]? = some x := e
    rw [List.getElem?_map, Option.map_eq_some_iff] at e
    obtain ⟨p, hp, rfl⟩ := e
    refine ⟨⟨frz_stay ex f h, (List.getElem?_eq_some_iff.mp hp).1⟩, fun v' H' hy => ?_⟩
    obtain ⟨rfl, k, v, hk, rfl⟩ := hy
    rw [hp] at hk
    cases hk
    exact ⟨T', rfl, .refl _, so, keys_rep _⟩
  stop := fun T' S S' ex so c => ⟨frz_stay ex f h, by subst hd; simp [Src.items]⟩
theorem walk_keysT {a : Addr} {o : Obj} {kvs : List (List Key × V)} {ds : List D} (f : T.fr a) (h : T.H a = some (.frz o (.dT kvs))) (hd : ds = kvs.map fun p => (KY.t p.1).d) : WalkOk K T (.fix ds) (Itkt a o kvs) where
  go := fun i x e T' S y ex so c => by
    cases c
    subst hd
    have e : (kvs.map fun p => (KY.t p.1).d)[i]? = some x := e
    rw [List.getElem?_map, Option.map_eq_some_iff] at e
    obtain ⟨p, hp, rfl⟩ := e
    refine ⟨⟨frz_stay ex f h, (List.getElem?_eq_some_iff.mp hp).1⟩, fun v' H' hy => ?_⟩
    obtain ⟨rfl, k, v, q, hk, rfl, hq⟩ := hy
    rw [hp] at hk
    cases hk
    refine ⟨T'.addF q, rfl, ext_addF so hq, sok_addF so hq, ?_⟩
    unfold KY.d Rep
    exact ⟨q, _, rfl, .inr rfl, hq, keysT_rep _⟩
  stop := fun T' S S' ex so c => ⟨frz_stay ex f h, by subst hd; simp [Src.items]⟩
theorem walk_vals {a : Addr} {o : Obj} {kvs : List (Key × V)} {ds : List D} (f : T.fr a) (h : T.H a = some (.frz o (.dK kvs))) (r : RepL K T ds (kvs.map (·.2))) : WalkOk K T (.fix ds) (Itd a o kvs) where
  go := fun i x e T' S y ex so c => by
    cases c
    obtain ⟨v, ev, rv⟩ := RepL.get r e
    rw [List.getElem?_map, Option.map_eq_some_iff] at ev
    obtain ⟨p, hp, rfl⟩ := ev
    refine ⟨⟨frz_stay ex f h, (List.getElem?_eq_some_iff.mp hp).1⟩, fun v' H' hy => ?_⟩
    obtain ⟨rfl, k, hk⟩ := hy
    rw [hp] at hk
    cases hk
    exact ⟨T', rfl, .refl _, so, rv.sub ex⟩
  stop := fun T' S S' ex so c => ⟨frz_stay ex f h, by have := r.length; simp at this; simp [Src.items, this]⟩
theorem walk_items {a : Addr} {o : Obj} {kvs : List (Key × V)} {dps : List (KY × D)} (f : T.fr a) (h : T.H a = some (.frz o (.dK kvs))) (hk : dps.map (·.1) = kvs.map fun p => KY.k p.1) (r : RepL K T (dps.map (·.2)) (kvs.map (·.2))) : WalkOk K T (.fix (dps.map fun p => .tup [p.1.d, p.2])) (Iti a o kvs) where
  go := fun i x e T' S y ex so c => by
    cases c
    have e : (dps.map fun p => D.tup [p.1.d, p.2])[i]? = some x := e
    rw [List.getElem?_map, Option.map_eq_some_iff] at e
    obtain ⟨q, hq, rfl⟩ := e
    have e1 : (dps.map (·.1))[i]? = some q.1 := by rw [List.getElem?_map, hq]; rfl
    have e2 : (dps.map (·.2))[i]? = some q.2 := by rw [List.getElem?_map, hq]; rfl
    rw [hk, List.getElem?_map, Option.map_eq_some_iff] at e1
    obtain ⟨p, hp, ep⟩ := e1
    obtain ⟨v, ev, rv⟩ := RepL.get r e2
    rw [List.getElem?_map, hp] at ev
    cases ev
    refine ⟨⟨frz_stay ex f h, (List.getElem?_eq_some_iff.mp hp).1⟩, fun v' H' hy => ?_⟩
    obtain ⟨t, k, v, hkv, rfl, ht, rfl⟩ := hy
    rw [hp] at hkv
    cases hkv
    refine ⟨T'.putF t (.tup [kV k, v]), rfl, ext_putF so ht, sok_putF so ht, ?_⟩
    unfold Rep
    rw [← ep]
    exact ⟨t, _, rfl, .inr rfl, upd_same, .cons (keys_rep _) (.cons ((rv.sub ex).mono (ext_putF so ht)) .nil)⟩
  stop := fun T' S S' ex so c => ⟨frz_stay ex f h, by have := congrArg List.length hk; simp at this; simp [Src.items, this]⟩
/-- a dict that nobody changes gets its lock -/
theorem ext_lockF {a : Addr} {od : Obj} {u : HO} (h : T.H a = some u) (hd : IsDict u) (hp : ¬ T.pr a) : Ext T (T.setH a (.frz od u)) where
  fr := fun _ h => h
  hp := fun b w f r => by
    by_cases e : b = a
    · rw [e, h] at r
      cases r
      exact .inr ⟨hd, od, by show upd T.H a _ b = _; rw [e, upd_same]⟩
    · exact .inl ((upd_ne e).trans r)
  pr := fun b p => ⟨p, upd_ne (fun e => hp (e ▸ p)), fun z => z⟩
  mu := fun _ _ => rfl
  N := Nat.le_refl _
theorem DK.dict {u : HO} {t : Bool} {ks : List KY} {vs : List V} (h : DK u t ks vs) : IsDict u := by
  rcases h with ⟨_, _, rfl, _⟩ | ⟨_, _, rfl, _⟩ <;> trivial
theorem DK.mut {u : HO} {t : Bool} {ks : List KY} {vs : List V} (h : DK u t ks vs) : Mut (some u) := by
  rcases h with ⟨_, _, rfl, _⟩ | ⟨_, _, rfl, _⟩ <;> trivial
theorem sok_lockF {a : Addr} {od : Obj} {u : HO} {S : Store} (s : SOk K T S) (f : T.fr a) (h : T.H a = some u) (hd : IsDict u) : SOk K (T.setH a (.frz od u)) S where
  len := s.len
  ob := fun n o ho => by
    have e : Ext T (T.setH a (.frz od u)) := ext_lockF (od := od) h hd (fun p => s.dis a p f)
    have z := s.ob n o ho
    cases o with
    | lst xs =>
      obtain ⟨h1, h2, vs, h3, r⟩ := z
      exact ⟨h1, h2, vs, (upd_ne (fun (z : T.mu n = a) => h1 (by rw [z]; exact f))).trans h3, r.mono e⟩
    | dct t kvs =>
      obtain ⟨h1, h2, w, vs, h3, dk, r⟩ := z
      exact ⟨h1, h2, w, vs, (upd_ne (fun (z : T.mu n = a) => h1 (by rw [z]; exact f))).trans h3, dk, r.mono e⟩
    | lk t kvs =>
      obtain ⟨h1, o2, w, vs, h3, dk, r⟩ := z
      exact ⟨h1, o2, w, vs, (upd_ne (fun (z : T.mu n = a) => by rw [z, h] at h3; cases h3; exact hd)).trans h3, dk, r.mono e⟩
    | dead => trivial
  inj := s.inj
  frn := fun b z => by
    show upd T.H a _ b ≠ none
    by_cases e : b = a
    · rw [e, upd_same]; simp
    · rw [upd_ne e]; exact s.frn b z
  prn := fun b z => by
    show upd T.H a _ b ≠ none
    by_cases e : b = a
    · rw [e, upd_same]; simp
    · rw [upd_ne e]; exact s.prn b z
  prk := fun b w p e => by
    have ne : b ≠ a := fun z => by subst z; exact s.dis b p f
    exact s.prk b w p ((upd_ne ne).symm.trans e)
  dis := s.dis
/-- a live dict gets its lock: it never changes again -/
def Tr.lockM (T : Tr) (a : Addr) (o : HO) : Tr := { T with H := upd T.H a o, fr := fun b => T.fr b ∨ b = a }
theorem ext_lockM {a : Addr} {o : HO} (hf : ¬ T.fr a) (hp : ¬ T.pr a) : Ext T (T.lockM a o) where
  fr := fun _ h => .inl h
  hp := fun b w f r => .inl ((upd_ne (fun (e : b = a) => hf (by rw [← e]; exact f))).trans r)
  pr := fun b p => ⟨p, upd_ne (fun (e : b = a) => hp (by rw [← e]; exact p)), fun z => z.resolve_right fun (e : b = a) => hp (by rw [← e]; exact p)⟩
  mu := fun _ _ => rfl
  N := Nat.le_refl _
theorem sok_lockM {n : Nat} {od : Obj} {u : HO} {S : Store} {t : Bool} {kvs : List (KY × D)} (s : SOk K T S) (hS : S[n]? = some (.dct t kvs)) (h : T.H (T.mu n) = some u) : SOk K (T.lockM (T.mu n) (.frz od u)) (S.set n (.lk t kvs)) := by
  obtain ⟨hf, hp, u', vs, h', dk, r⟩ := s.ob n _ hS
  rw [h] at h'
  cases h'
  have e := ext_lockM (o := .frz od u) hf hp
  refine ⟨by rw [List.length_set]; exact s.len, fun m o ho => ?_, fun x y p q hx hy lx ly e => ?_, fun a z => ?_, fun a z => ?_, fun a w p z => ?_, fun a p z => ?_⟩
  · by_cases hm : n = m
    · subst hm
      rw [List.getElem?_set_self (List.getElem?_eq_some_iff.mp hS).1] at ho
      cases ho
      exact ⟨.inr rfl, od, u, vs, upd_same, dk, r.mono e⟩
    · rw [List.getElem?_set_ne hm] at ho
      have ne : o.on → T.mu m ≠ T.mu n := fun l z => hm (s.inj m n o _ ho hS l trivial z).symm
      exact (s.ob m o ho).mono e (fun l => upd_ne (ne l)) (fun l z => z.resolve_right (ne l)) (fun _ => Iff.rfl)
  · have at_ : ∀ {m : Nat} {x : Ob}, (S.set n (.lk t kvs))[m]? = some x → x.on → ∃ z, S[m]? = some z ∧ z.on := fun {m x} hx lx => by
      by_cases e : n = m
      · subst e; exact ⟨_, hS, trivial⟩
      · rw [List.getElem?_set_ne e] at hx; exact ⟨x, hx, lx⟩
    obtain ⟨z1, h1, l1⟩ := at_ hx lx
    obtain ⟨z2, h2, l2⟩ := at_ hy ly
    exact s.inj x y z1 z2 h1 h2 l1 l2 e
  · show upd T.H _ _ a ≠ none
    by_cases e : a = T.mu n
    · rw [e, upd_same]; simp
    · rw [upd_ne e]; exact s.frn a (z.resolve_right e)
  · show upd T.H _ _ a ≠ none
    by_cases e : a = T.mu n
    · rw [e, upd_same]; simp
    · rw [upd_ne e]; exact s.prn a z
  · have ne : a ≠ T.mu n := fun e => by rw [e] at p; exact hp p
    exact s.prk a w p ((upd_ne ne).symm.trans z)
  · rcases z with z | z
    · exact s.dis a p z
    · rw [z] at p; exact hp p
end
section
variable {X : Cx}
/-- the value, a dict: locked already, or locked now -/
theorem pe_lk {e : Expr} {t : TE} (h : PE X e t) : PE X e (fun σ H Q => t σ H fun v H1 => Q v H1 ∨ ∃ d u, v = .ref d ∧ H1 d = some u ∧ Mut (some u) ∧ ∀ od, Q v (upd H1 d (.frz od u))) :=
  ⟨fun pins s σ H Q I q => thn (h.run pins s σ H _ I q) fun u s1 ⟨x, H1, I1, rx, q⟩ => by
    rcases q with q | ⟨d, w, ex, hd, mu, q⟩
    · exact ⟨x, H1, I1, rx, q⟩
    · obtain ⟨od, I2⟩ := I1.lock hd mu
      exact ⟨x, _, I2, rx, q od⟩⟩
/-- what a lock gives -/
theorem lock_ok {T : Tr} {S S' : Store} {d : D} {v : V} {t : Bool} {kvs : List (KY × D)} (s : SOk X.K T S) (r : Rep X.K T d v) (h : lockS S d = some (t, kvs, S')) {Q : VK}
    (hQ : ∀ T' a o u vs, Ext T T' → SOk X.K T' S' → v = .ref a → T'.fr a → T'.H a = some (.frz o u) → DK u t (kvs.map (·.1)) vs → RepL X.K T' (kvs.map (·.2)) vs → Q v T'.H) :
    Q v T.H ∨ ∃ d u, v = .ref d ∧ T.H d = some u ∧ Mut (some u) ∧ ∀ od, Q v (upd T.H d (.frz od u)) := by
  cases d with
  | dct t' ks ds =>
    simp only [lockS, Option.some.injEq, Prod.mk.injEq] at h
    obtain ⟨rfl, rfl, rfl⟩ := h
    obtain ⟨a, u, vs, rfl, f, rd, dk, rl⟩ := r.dct
    have hl : ks.length = ds.length := by
      rw [rl.length]
      rcases dk with ⟨_, kv, _, rfl, rfl⟩ | ⟨_, kv, _, rfl, rfl⟩ <;> simp
    have k1 : (ks.zip ds).map (·.1) = ks := List.map_fst_zip (Nat.le_of_eq hl)
    have k2 : (ks.zip ds).map (·.2) = ds := List.map_snd_zip (Nat.le_of_eq hl.symm)
    rcases rd with h | ⟨o, h⟩
    · refine .inr ⟨a, u, rfl, h, dk.mut, fun od => ?_⟩
      have e := ext_lockF (od := od) h dk.dict (fun p => s.dis a p f)
      exact hQ (T.setH a (.frz od u)) a od u vs e (sok_lockF s f h dk.dict) rfl f upd_same (by rw [k1]; exact dk) (by rw [k2]; exact rl.mono e)
    · exact .inl (hQ T a o u vs (.refl _) s rfl f h (by rw [k1]; exact dk) (by rw [k2]; exact rl))
  | ref n =>
    obtain ⟨hn, rfl⟩ := r.ref
    simp only [lockS] at h
    split at h
    · rename_i hS
      cases h
      obtain ⟨hf, hp, u, vs, hh, dk, rl⟩ := s.ob n _ hS
      refine .inr ⟨_, u, rfl, hh, dk.mut, fun od => ?_⟩
      have e := ext_lockM (o := .frz od u) hf hp
      exact hQ (T.lockM (T.mu n) (.frz od u)) _ od u vs e (sok_lockM s hS hh) rfl (.inr rfl) upd_same dk (rl.mono e)
    · rename_i hS
      cases h
      obtain ⟨hf, od, u, vs, hh, dk, rl⟩ := s.ob n _ hS
      exact .inl (hQ T _ od u vs (.refl _) s rfl hf hh dk rl)
    · cases h
  | _ => simp [lockS] at h
theorem okI_items {elts : List Expr} {kk : Nat} {tpos apos cpos : Pos} {e : Expr} {m : Sem1 D} (h : OkE X e m) (hbase : attributeBase e "items" X.env (eval e X.env) = eval e X.env) (hline : (apos.endLine == cpos.line) = true) :
    OkI X (.Tuple elts kk tpos) (.Call (.Attribute e "items" apos) [] [] cpos) (fun ρ S => (m ρ S).bind fun x S1 => walkI S1 x) := by
  refine pi_weak (pi_items (pe_lk h) hbase hline) ?_
  rintro σ H R ⟨T, ρ, S, rfl, so, re, p⟩
  refine .mk so re (p.bind.imp fun d S1 T1 e1 s1 p1 v rv => ?_)
  unfold walkI at p1
  split at p1
  · rename_i kvs S2 hl
    refine lock_ok (Q := fun x H1 => ∃ d o kvs, x = V.ref d ∧ H1 d = some (.frz o (.dK kvs)) ∧ R (Iti d o kvs) H1) s1 rv hl fun T2 a o u vs e2 s2 ev f hh dk rl => ?_
    rcases dk with ⟨_, kv, rfl, ek, rfl⟩ | ⟨z, _⟩
    · exact ⟨a, o, kv, ev, hh, Post.now (Post.mono (r := LH.R.ok (Src.fix _) S2) p1 e2) s2 _ (walk_items f hh ek rl)⟩
    · cases z
  · exact p1.elim
theorem okI_values {tg : Expr} {apos cpos : Pos} {e : Expr} {m : Sem1 D} (h : OkE X e m) (hbase : attributeBase e "values" X.env (eval e X.env) = eval e X.env) (hline : (apos.endLine == cpos.line) = true) :
    OkI X tg (.Call (.Attribute e "values" apos) [] [] cpos) (fun ρ S => (m ρ S).bind fun x S1 => walkV S1 x) := by
  refine pi_weak (pi_values (pe_lk h) hbase hline) ?_
  rintro σ H R ⟨T, ρ, S, rfl, so, re, p⟩
  refine .mk so re (p.bind.imp fun d S1 T1 e1 s1 p1 v rv => ?_)
  unfold walkV at p1
  split at p1
  · rename_i kvs S2 hl
    refine lock_ok (Q := fun x H1 => ∃ d o kvs, x = V.ref d ∧ H1 d = some (.frz o (.dK kvs)) ∧ R (Itd d o kvs) H1) s1 rv hl fun T2 a o u vs e2 s2 ev f hh dk rl => ?_
    rcases dk with ⟨_, kv, rfl, ek, rfl⟩ | ⟨z, _⟩
    · exact ⟨a, o, kv, ev, hh, Post.now (Post.mono (r := LH.R.ok (Src.fix _) S2) p1 e2) s2 _ (walk_vals f hh rl)⟩
    · cases z
  · exact p1.elim
end
section
variable {X : Cx} {tg : Expr}
theorem okI_it0 {e : Expr} {m : Sem1 D} (h : OkE X e m) : OkI X tg e (fun ρ S => (m ρ S).bind fun x S1 => .opt (srcD S1 x) S1) := by
  refine pi_weak (pi_or (pi_list h) (pi_or (pi_tup h) (pi_str h))) ?_
  rintro σ H R ⟨T, ρ, S, rfl, so, re, p⟩
  replace p := (show Post X.K T ((m ρ S).bind fun x S1 => LH.R.opt (srcD S1 x) S1) _ from p)
  cases hm : m ρ S with
  | ex _ _ _ => rw [hm] at p; exact p.elim
  | no => rw [hm] at p; exact p.elim
  | ok d S1 =>
    rw [hm] at p
    cases d with
    | lst xs =>
      refine .inl ⟨T, ρ, S, rfl, so, re, ?_⟩
      rw [hm]
      intro T1 e1 s1 v r
      obtain ⟨a, vs, rfl, f, hh, rl⟩ := r.lst
      exact ⟨a, rfl, ⟨vs, SqL.of hh⟩, Post.now (Post.mono (r := LH.R.ok (Src.fix xs) S1) p e1) s1 _ (walk_list f hh rl)⟩
    | tup xs =>
      refine .inr (.inl ⟨T, ρ, S, rfl, so, re, ?_⟩)
      rw [hm]
      intro T1 e1 s1 v r
      obtain ⟨a, vs, rfl, f, hh, rl⟩ := r.tup
      exact ⟨a, rfl, ⟨vs, SqT.of hh⟩, Post.now (Post.mono (r := LH.R.ok (Src.fix xs) S1) p e1) s1 _ (walk_tup f hh rl)⟩
    | str x =>
      refine .inr (.inr ⟨T, ρ, S, rfl, so, re, ?_⟩)
      rw [hm]
      intro T1 e1 s1 v r
      have hr := r.str
      subst hr
      exact ⟨x, rfl, Post.now (Post.mono (r := LH.R.ok (Src.fix _) S1) p e1) s1 _ walk_str⟩
    | ref n =>
      obtain ⟨src, hs, p⟩ := Post.opt (show Post X.K T (.opt (srcD S1 (.ref n)) S1) _ from p)
      simp only [srcD] at hs
      split at hs
      · rename_i xs hS
        cases hs
        refine .inl ⟨T, ρ, S, rfl, so, re, ?_⟩
        rw [hm]
        intro T1 e1 s1 v r
        unfold Rep at r
        obtain ⟨hn, rfl⟩ := r
        obtain ⟨_, _, vs, hh, rl⟩ := s1.ob n _ hS
        exact ⟨_, rfl, ⟨vs, SqL.of hh⟩, Post.now (Post.mono (r := LH.R.ok (Src.live n xs) S1) p e1) s1 _ (walk_live hn)⟩
      · cases hs
    | non => exact p.elim
    | bl b => exact p.elim
    | int i => exact p.elim
    | dct t ks vs => exact p.elim
    | fn i => exact p.elim
    | exc k d => exact p.elim
    | scr ns => exact p.elim
theorem okR_iff {j : Int} (h : okR j = true) : -(2 ^ 62) ≤ j ∧ j < 2 ^ 62 := by
  simpa [okR] using h
theorem okI_rng1 {a : Expr} {ma : Sem1 (List D)} {p pos : Pos} (hg : Gl X "range") (hm : X.mg "range" = none) (ha : OkL X [a] ma) (hs : starEach [a] X.env = [(false, eval a X.env)]) : OkI X tg (.Call (.Name "range" p) [a] [] pos) (fun ρ S => (ma ρ S).bind fun xs S1 => match xs with
    | [.int j] => if okR j then .ok (.fix (rngD 0 j)) S1 else .no
    | _ => .no) := by
  refine pi_weak (pi_range1 hg hm ha hs) ?_
  rintro σ H R ⟨T, ρ, S, rfl, so, re, p⟩
  refine ⟨T, ρ, S, rfl, so, re, p.bind.imp fun ds S1 T1 e1 s1 p1 vs r => ?_⟩
  split at p1
  · obtain ⟨v, r0, rfl, r1, r2⟩ := r.cons_inv
    have h2 := r2.nil_inv
    subst h2
    have h1 := r1.int
    subst h1
    split at p1
    · rename_i j hj
      have := okR_iff hj
      refine ⟨_, rfl, this.1, this.2, ?_⟩
      have w := p1.now s1 _ (walk_rng (K := X.K) (T := T1) (lo := 0) (hi := j))
      rw [Int.sub_zero] at w
      exact w
    · exact p1.elim
  · exact p1.elim
theorem okI_rng2 {a b : Expr} {ma : Sem1 (List D)} {p pos : Pos} (hg : Gl X "range") (hm : X.mg "range" = none) (ha : OkL X [a, b] ma) (hs : starEach [a, b] X.env = [(false, eval a X.env), (false, eval b X.env)]) (hs2 : starEach [b] X.env = [(false, eval b X.env)]) : OkI X tg (.Call (.Name "range" p) [a, b] [] pos) (fun ρ S => (ma ρ S).bind fun xs S1 => match xs with
    | [.int i, .int j] => if okR i && okR j then .ok (.fix (rngD i j)) S1 else .no
    | _ => .no) := by
  refine pi_weak (pi_range2 hg hm ha hs hs2) ?_
  rintro σ H R ⟨T, ρ, S, rfl, so, re, p⟩
  refine ⟨T, ρ, S, rfl, so, re, p.bind.imp fun ds S1 T1 e1 s1 p1 vs r => ?_⟩
  split at p1
  · obtain ⟨v, r0, rfl, r1, r2⟩ := r.cons_inv
    obtain ⟨u, r0', rfl, r1', r2'⟩ := r2.cons_inv
    have h2 := r2'.nil_inv
    subst h2
    have h1 := r1.int
    subst h1
    have h1' := r1'.int
    subst h1'
    split at p1
    · rename_i i j hj
      rw [Bool.and_eq_true] at hj
      have h1 := okR_iff hj.1
      have h2 := okR_iff hj.2
      exact ⟨i, j, rfl, ⟨h1.1, h1.2, h2.1, h2.2⟩, p1.now s1 _ walk_rng⟩
    · exact p1.elim
  · exact p1.elim
theorem okI_enum {e : Expr} {elts : List Expr} {kk : Nat} {tpos : Pos} {ma : Sem1 (List D)} {p pos : Pos} (hg : Gl X "enumerate") (hm : X.mg "enumerate" = none) (ha : OkL X [e] ma) (hs : starEach [e] X.env = [(false, eval e X.env)]) : OkI X (.Tuple elts kk tpos) (.Call (.Name "enumerate" p) [e] [] pos) (fun ρ S => (ma ρ S).bind fun xs S1 => match xs with
    | [.lst xs] => .ok (.fix ((List.range xs.length).zip xs |>.map fun p => .tup [.int (p.1 : Nat), p.2])) S1
    | _ => .no) := by
  refine pi_weak (pi_enum hg hm ha hs) ?_
  rintro σ H R ⟨T, ρ, S, rfl, so, re, p⟩
  refine ⟨T, ρ, S, rfl, so, re, p.bind.imp fun ds S1 T1 e1 s1 p1 vs r => ?_⟩
  split at p1
  · obtain ⟨v, r0, rfl, r1, r2⟩ := r.cons_inv
    have h2 := r2.nil_inv
    subst h2
    obtain ⟨a, vs, rfl, f, hh, rl⟩ := r1.lst
    exact ⟨a, vs, rfl, SqL.of hh, p1.now s1 _ (walk_enum f hh rl)⟩
  · exact p1.elim
theorem okI_zip {e e2 : Expr} {elts : List Expr} {kk : Nat} {tpos : Pos} {ma : Sem1 (List D)} {p pos : Pos} (hg : Gl X "zip") (hm : X.mg "zip" = none) (ha : OkL X [e, e2] ma) (hs : starEach [e, e2] X.env = (false, eval e X.env) :: starEach [e2] X.env) (hpl : (backTo pos (starEach [e2] X.env)).any (·.1) = false) : OkI X (.Tuple elts kk tpos) (.Call (.Name "zip" p) [e, e2] [] pos) (fun ρ S => (ma ρ S).bind fun ds S1 => match ds with
    | [.lst xs, .lst ys] => .ok (.fix ((xs.zip ys).map fun p => .tup [p.1, p.2])) S1
    | [.tup xs, .tup ys] => .ok (.fix ((xs.zip ys).map fun p => .tup [p.1, p.2])) S1
    | [x, y] => match lstD S1 x, lstD S1 y with
      | some xs, some ys => .ok (.zipl x y ((xs.zip ys).map fun p => .tup [p.1, p.2])) S1
      | _, _ => .no
    | _ => .no) := by
  refine pi_weak (RZ.pi_zipA hg hm ha hs hpl) ?_
  rintro σ H R ⟨T, ρ, S, rfl, so, re, p⟩
  refine ⟨T, ρ, S, rfl, so, re, p.bind.imp fun ds S1 T1 e1 s1 p1 vs r => ?_⟩
  split at p1
  · obtain ⟨v, r0, rfl, r1, r2⟩ := r.cons_inv
    obtain ⟨u, r0', rfl, r1', r2'⟩ := r2.cons_inv
    have h2 := r2'.nil_inv
    subst h2
    obtain ⟨a, vs, rfl, f, hh, rl⟩ := r1.lst
    obtain ⟨a2, vs2, rfl, f2, hh2, rl2⟩ := r1'.lst
    exact ⟨a, a2, vs, vs2, rfl, .inl ⟨SqL.of hh, SqL.of hh2, p1.now s1 _ (walk_zip f hh rl f2 hh2 rl2)⟩⟩
  · obtain ⟨v, r0, rfl, r1, r2⟩ := r.cons_inv
    obtain ⟨u, r0', rfl, r1', r2'⟩ := r2.cons_inv
    have h2 := r2'.nil_inv
    subst h2
    obtain ⟨a, vs, rfl, f, hh, rl⟩ := r1.tup
    obtain ⟨a2, vs2, rfl, f2, hh2, rl2⟩ := r1'.tup
    exact ⟨a, a2, vs, vs2, rfl, .inr ⟨SqT.of hh, SqT.of hh2, p1.now s1 _ (walk_zipT f hh rl f2 hh2 rl2)⟩⟩
  · split at p1
    · rename_i g1 g2
      obtain ⟨v, r0, rfl, r1, r2⟩ := r.cons_inv
      obtain ⟨u, r0', rfl, r1', r2'⟩ := r2.cons_inv
      have h2 := r2'.nil_inv
      subst h2
      obtain ⟨a, vs, ea, hh, rl⟩ := lstD_rep s1 r1 g1
      obtain ⟨a2, vs2, ea2, hh2, rl2⟩ := lstD_rep s1 r1' g2
      have w := walk_zipl s1 r1 r1' g1 g2 ea ea2
      subst ea ea2
      exact ⟨a, a2, vs, vs2, rfl, .inl ⟨SqL.of hh, SqL.of hh2, p1.now s1 _ w⟩⟩
    · exact p1.elim
  · exact p1.elim
theorem okI_revr {e : Expr} {ma : Sem1 D} {p p2 pos pos2 : Pos} (hg : Gl X "reversed") (hm : X.mg "reversed" = none) (hg2 : Gl X "range") (hm2 : X.mg "range" = none) (ha : OkE X e ma) (hs : starEach [e] X.env = (false, eval e X.env) :: starEach [] X.env) :
    OkI X tg (.Call (.Name "reversed" p) [.Call (.Name "range" p2) [e] [] pos2] [] pos) (fun ρ S => (ma ρ S).bind fun x S1 => match x with
    | .int j => if okR j then .ok (.fix (rngD 0 j).reverse) S1 else .no
    | _ => .no) := by
  refine pi_weak (pi_revR hg hm (prg_1 hg2 hm2 ha hs) rfl) ?_
  rintro σ H R ⟨T, ρ, S, rfl, so, re, p⟩
  refine ⟨T, ρ, S, rfl, so, re, p.bind.imp fun d S1 T1 e1 s1 p1 v r => ?_⟩
  split at p1
  · have h1 := r.int
    subst h1
    split at p1
    · rename_i j hj
      have h1 := okR_iff hj
      exact ⟨j, rfl, by decide, by decide, h1.1, h1.2, p1.now s1 _ walk_rngR⟩
    · exact p1.elim
  · exact p1.elim
theorem okI_it {e : Expr} {m : Sem1 D} (h : OkE X e m) : OkI X tg e (fun ρ S => (m ρ S).bind fun x S1 => walkD S1 x) := by
  refine pi_weak (pi_or (okI_it0 h) (pi_keys (pe_lk h))) ?_
  rintro σ H R ⟨T, ρ, S, rfl, so, re, p⟩
  replace p := (show Post X.K T ((m ρ S).bind fun x S1 => walkD S1 x) _ from p)
  cases hm : m ρ S with
  | ex _ _ _ => rw [hm] at p; exact p.elim
  | no => rw [hm] at p; exact p.elim
  | ok d S1 =>
    cases hl : lockS S1 d with
    | none =>
      refine .inl ⟨T, ρ, S, rfl, so, re, ?_⟩
      rw [hm] at p
      simp only [LH.R.bind_ok, walkD, hl] at p
      show Post X.K T ((m ρ S).bind fun x S1 => LH.R.opt (srcD S1 x) S1) _
      rw [hm]
      exact p
    | some z =>
      obtain ⟨t, kvs, S2⟩ := z
      refine .inr (.mk so re ?_)
      rw [hm] at p ⊢
      simp only [LH.R.bind_ok, walkD, hl] at p
      intro T1 e1 s1 v rv
      refine lock_ok (Q := fun x H1 => ∃ d o, x = V.ref d ∧ ((∃ kvs, H1 d = some (.frz o (.dK kvs)) ∧ R (Itk d o kvs) H1) ∨ ∃ kvs, H1 d = some (.frz o (.dT kvs)) ∧ R (Itkt d o kvs) H1)) s1 rv hl fun T2 a o u vs e2 s2 ev f hh dk rl => ?_
      have q := fun J w => Post.now (Post.mono (r := LH.R.ok (Src.fix (kvs.map fun p => p.1.d)) S2) p (e1.trans e2)) s2 J w
      rcases dk with ⟨_, kv, rfl, ek, rfl⟩ | ⟨_, kv, rfl, ek, rfl⟩
      · refine ⟨a, o, ev, .inl ⟨kv, hh, q _ (walk_keys f hh ?_)⟩⟩
        have := congrArg (List.map KY.d) ek
        simpa [List.map_map, Function.comp_def] using this
      · refine ⟨a, o, ev, .inr ⟨kv, hh, q _ (walk_keysT f hh ?_)⟩⟩
        have := congrArg (List.map KY.d) ek
        simpa [List.map_map, Function.comp_def] using this
end
theorem src_fin_eq {src : Src} {S S3 : Store} {i : Nat} (hf : src.fin i S = some S3) : S3 = S := by
  cases src with
  | fix xs => simp only [Src.fin, Option.some.injEq] at hf; exact hf.symm
  | live n xs =>
    simp only [Src.fin] at hf
    split at hf
    · split at hf
      · cases hf; rfl
      · cases hf
    · cases hf
  | zipl a b xs =>
    simp only [Src.fin] at hf
    split at hf
    · split at hf
      · cases hf; rfl
      · cases hf
    · cases hf
end LH

namespace LH
open PySem PySem.W L2 PySem.Spec PyProof.Rows
/-! ## a list that is being made is put aside -/
def Tr.strip (T : Tr) (D : Addr) : Tr := { T with H := fun a => if a = D then none else T.H a, pr := fun a => T.pr a ∧ a ≠ D }
section
variable {K : Frag} {T T' : Tr} {D : Addr} {S : Store}
theorem strip_ne {a : Addr} (h : a ≠ D) : (T.strip D).H a = T.H a := if_neg h
theorem strip_eq : (T.strip D).H D = none := if_pos rfl
theorem ext_unstrip (hf : ¬ T.fr D) : Ext (T.strip D) T where
  fr := fun _ h => h
  hp := fun a u h r => .inl (by
    have ne : a ≠ D := fun e => hf (e ▸ h)
    rw [strip_ne ne] at r; exact r)
  pr := fun a h => ⟨h.1, (strip_ne h.2).symm, fun z => z⟩
  mu := fun _ _ => rfl
  N := Nat.le_refl _
theorem sub_strip (hf : ¬ T.fr D) : Sub T (T.strip D) where
  fr := fun _ h => h
  hp := fun a u h r => .inl (by
    have ne : a ≠ D := fun e => hf (e ▸ h)
    rw [strip_ne ne]; exact r)
  mu := fun _ _ => rfl
  N := Nat.le_refl _
theorem ext_strip (hf : ¬ T.fr D) (e : Ext T T') : Ext (T.strip D) (T'.strip D) where
  fr := e.fr
  hp := fun a u h r => by
    have ne : a ≠ D := fun z => hf (z ▸ h)
    rw [strip_ne ne] at r ⊢
    exact e.hp a u h r
  pr := fun a h => by
    obtain ⟨p1, p2, p3⟩ := e.pr a h.1
    exact ⟨⟨p1, h.2⟩, by rw [strip_ne h.2, strip_ne h.2]; exact p2, p3⟩
  mu := e.mu
  N := e.N
theorem sok_strip {u : HO} (s : SOk K T S) (hf : ¬ T.fr D) (hp : T.pr D) (hD : T.H D = some u) : SOk K (T.strip D) S where
  len := s.len
  ob := fun n o h => by
    have q := s.ob n o h
    cases o with
    | lst xs =>
      obtain ⟨h1, h2, vs, e1, r⟩ := q
      have ne : T.mu n ≠ D := fun e => h2 (by rw [e]; exact hp)
      exact ⟨h1, fun z => h2 z.1, vs, by show (T.strip D).H (T.mu n) = _; rw [strip_ne ne]; exact e1, r.sub (sub_strip hf)⟩
    | dct t kvs =>
      obtain ⟨h1, h2, u, vs, e1, k, r⟩ := q
      have ne : T.mu n ≠ D := fun e => h2 (by rw [e]; exact hp)
      exact ⟨h1, fun z => h2 z.1, u, vs, by show (T.strip D).H (T.mu n) = _; rw [strip_ne ne]; exact e1, k, r.sub (sub_strip hf)⟩
    | lk t kvs =>
      obtain ⟨h1, od, u, vs, e1, k, r⟩ := q
      have ne : T.mu n ≠ D := fun e => hf (e ▸ h1)
      exact ⟨h1, od, u, vs, by show (T.strip D).H (T.mu n) = _; rw [strip_ne ne]; exact e1, k, r.sub (sub_strip hf)⟩
    | dead => trivial
  inj := s.inj
  frn := fun a h => by
    have ne : a ≠ D := fun z => hf (z ▸ h)
    rw [strip_ne ne]; exact s.frn a h
  prn := fun a h => by rw [strip_ne h.2]; exact s.prn a h.1
  prk := fun a u h e => by rw [strip_ne h.2] at e; exact s.prk a u h.1 e
  dis := fun a h => s.dis a h.1
theorem strip_put {o : HO} (h : T.H D = none) : (T.putP D o).strip D = { T with pr := fun a => (T.pr a ∨ a = D) ∧ a ≠ D } := by
  unfold Tr.strip Tr.putP
  congr 1
  funext a
  by_cases e : a = D
  · rw [if_pos e, e, h]
  · rw [if_neg e]; exact upd_ne e
theorem strip_set {acc : List V} : (T.setH D (.lst acc)).strip D = T.strip D := by
  unfold Tr.strip Tr.setH
  congr 1
  funext a
  by_cases e : a = D
  · rw [if_pos e, if_pos e]
  · rw [if_neg e, if_neg e]; exact upd_ne e
theorem R.bind_assoc {α β γ : Type} (r : R α) (f : α → Store → R β) (g : β → Store → R γ) : (r.bind f).bind g = r.bind fun a S => (f a S).bind g := by
  cases r <;> rfl
/-- a place in use by nobody but the maker -/
theorem ext_setD {acc acc' : List V} (hf : ¬ T.fr D) {T0 : Tr} (e : Ext T0 T) (hn : ¬ T0.pr D) : Ext T0 (T.setH D (.lst acc)) where
  fr := e.fr
  hp := fun a u h r => by
    have ne : a ≠ D := fun z => hf (e.fr _ (z ▸ h))
    rcases e.hp a u h r with z | ⟨d, o, z⟩
    · exact .inl ((upd_ne ne).trans z)
    · exact .inr ⟨d, o, (upd_ne ne).trans z⟩
  pr := fun a h => by
    have ne : a ≠ D := fun z => hn (z ▸ h)
    obtain ⟨p1, p2, p3⟩ := e.pr a h
    exact ⟨p1, (upd_ne ne).trans p2, p3⟩
  mu := e.mu
  N := e.N
theorem sub_setD {o : HO} (hf : ¬ T.fr D) : Sub T (T.setH D o) where
  fr := fun _ h => h
  hp := fun a u h r => .inl (by
    have ne : a ≠ D := fun z => hf (z ▸ h)
    exact (upd_ne ne).trans r)
  mu := fun _ _ => rfl
  N := Nat.le_refl _
theorem sok_setD {acc acc' : List V} (s : SOk K T S) (hf : ¬ T.fr D) (hp : T.pr D) (hD : T.H D = some (.lst acc)) : SOk K (T.setH D (.lst acc')) S where
  len := s.len
  ob := fun n o h => by
    have q := s.ob n o h
    cases o with
    | lst xs =>
      obtain ⟨h1, h2, vs, e1, r⟩ := q
      have ne : T.mu n ≠ D := fun e => h2 (by rw [e]; exact hp)
      exact ⟨h1, h2, vs, (upd_ne ne).trans e1, r.sub (sub_setD hf)⟩
    | dct t kvs =>
      obtain ⟨h1, h2, u, vs, e1, k, r⟩ := q
      have ne : T.mu n ≠ D := fun e => h2 (by rw [e]; exact hp)
      exact ⟨h1, h2, u, vs, (upd_ne ne).trans e1, k, r.sub (sub_setD hf)⟩
    | lk t kvs =>
      obtain ⟨h1, od, u, vs, e1, k, r⟩ := q
      have ne : T.mu n ≠ D := fun e => hf (e ▸ h1)
      exact ⟨h1, od, u, vs, (upd_ne ne).trans e1, k, r.sub (sub_setD hf)⟩
    | dead => trivial
  inj := s.inj
  frn := fun a h => by
    have ne : a ≠ D := fun z => hf (z ▸ h)
    show upd T.H D _ a ≠ none
    rw [upd_ne ne]; exact s.frn a h
  prn := fun a h => by
    show upd T.H D _ a ≠ none
    by_cases e : a = D
    · rw [e, upd_same]; simp
    · rw [upd_ne e]; exact s.prn a h
  prk := fun a u h e => by
    by_cases e' : a = D
    · have e : upd T.H D _ a = some u := e
      rw [e', upd_same] at e
      cases e; intro xs z; cases z
    · exact s.prk a u h ((upd_ne e').symm.trans e)
  dis := s.dis
end
/-! ## names of a block -/
theorem wipe_get {σ : L2.St} {i : Nat} : ∀ {vs : List Nat}, (wipe σ vs)[i]? = if i ∈ vs then σ[i]?.map fun _ => none else σ[i]?
  | [] => by simp [wipe]
  | v :: vs => by
    unfold wipe
    by_cases hi : v = i
    · subst hi
      rw [if_pos List.mem_cons_self, List.getElem?_set]
      simp only [if_true, wipe_length]
      cases h : σ[v]? with
      | none => rw [if_neg (by rw [List.getElem?_eq_none_iff] at h; omega)]; rfl
      | some x => rw [if_pos (List.getElem?_eq_some_iff.mp h).1]; rfl
    · rw [List.getElem?_set_ne hi, wipe_get]
      have : (i ∈ v :: vs) ↔ i ∈ vs := by simp [Ne.symm hi, eq_comm]
      simp only [this]
theorem wipe_out {σ σ' : L2.St} {l vs : List Nat} (h : Out l (wipe σ vs) σ') (hl : ∀ i ∈ l, i ∈ vs) : wipe σ' vs = wipe σ vs := by
  apply List.ext_getElem?
  intro i
  rw [wipe_get, wipe_get]
  by_cases hi : i ∈ vs
  · rw [if_pos hi, if_pos hi]
    have hlen : σ'.length = σ.length := h.1.trans (wipe_length _ _)
    by_cases hb : i < σ.length
    · rw [List.getElem?_eq_getElem hb, List.getElem?_eq_getElem (by rw [hlen]; exact hb)]; rfl
    · rw [List.getElem?_eq_none (by omega), List.getElem?_eq_none (by omega)]
  · rw [if_neg hi, if_neg hi]
    have := h.2 i fun z => hi (hl i z)
    rw [wipe_get, if_neg hi] at this
    exact this
theorem REnv.wipe {K : Frag} {T : Tr} {ρ : Env} {σ : L2.St} (h : REnv K T ρ σ) (vs : List Nat) : REnv K T (wipeE ρ vs) (L2.wipe σ vs) := by
  induction vs with
  | nil => exact h
  | cons v vs ih =>
    refine ⟨by show ((wipeE ρ vs).set v none).length = ((L2.wipe σ vs).set v none).length; rw [List.length_set, List.length_set]; exact ih.1, fun i d e => ?_⟩
    have e : ((wipeE ρ vs).set v none)[i]? = some (some d) := e
    by_cases hi : v = i
    · subst hi
      rw [List.getElem?_set] at e
      simp only [if_true] at e
      split at e <;> cases e
    · rw [List.getElem?_set_ne hi] at e
      obtain ⟨w, e1, r⟩ := ih.2 i d e
      exact ⟨w, by show ((L2.wipe σ vs).set v none)[i]? = _; rw [List.getElem?_set_ne hi]; exact e1, r⟩
section
variable {X : Cx}
theorem lc_reads {own : List (Str × Nat)} {b : Bool} {g : G} {mi : Sem1 Src} {mc : Sem1 Bool} {me : Sem1 D} (hgs : ∀ i ∈ g.slots, i ∈ own.map (·.2)) {σ : L2.St} {H : Hp} {Q : VK}
    (h : tE X.K (fun ρ S => (mi ρ S).bind fun src S1 => (lcRun src (lcBody g (own.map (·.2)) mc me ρ) src.items 0 S1).bind fun xs S3 => mkL b xs S3) σ H Q) : tLc (tI X.K mi) (gG X.K g) (tB' X.K mc) (tE X.K me) (own.map (·.2)) σ H Q := by
  obtain ⟨T, ρ, S, rfl, so, re, p⟩ := h
  refine ⟨T, ρ, S, rfl, so, re, p.bind.imp fun src S1 T1 e1 s1 p1 J wk D hD => ?_⟩
  generalize hbd : lcBody g (own.map (·.2)) mc me ρ = body at p1
  have nf1 : ¬ T1.fr D := fun z => s1.frn D z hD
  have np1 : ¬ T1.pr D := fun z => s1.prn D z hD
  refine ⟨fun i m H => ∃ T S' accD acc, T.H = H ∧ SOk X.K T S' ∧ T.pr D ∧ ¬ T.fr D ∧ T.H D = some (.lst acc) ∧ RepL X.K T accD acc ∧ Ext T1 T ∧ i ≤ src.items.length ∧ m = src.items.length - i ∧
    Post X.K (T.strip D) ((lcRun src body (src.items.drop i) i S').bind fun xs S3 => mkL b (accD ++ xs) S3) (kV' X.K Q), ⟨src.items.length - 0, T1.putP D (.lst []), S1, [], [], rfl, sok_putP s1 hD (fun _ z => nomatch z), .inr rfl, nf1, upd_same, .nil, ext_putP s1 hD, Nat.zero_le _, rfl, ?_⟩, ?_⟩
  · rw [List.drop_zero]
    have ee : Ext T1 ((T1.putP D (.lst [])).strip D) := by
      rw [strip_put hD]
      exact ⟨fun _ z => z, fun _ _ _ r => .inl r, fun a z => ⟨⟨.inl z, fun q => np1 (q ▸ z)⟩, rfl, fun q => q⟩, fun _ _ => rfl, Nat.le_refl _⟩
    exact p1.mono ee
  · rintro i m H ⟨T2, S', accD, acc, rfl, s2, hpD, hfD, hDD, rA, e2, hi, rfl, p2⟩
    have hss : SOk X.K (T2.strip D) S' := sok_strip s2 hfD hpD hDD
    by_cases hlt : i < src.items.length
    · right
      obtain ⟨x, hx⟩ : ∃ x, src.items[i]? = some x := ⟨_, List.getElem?_eq_getElem hlt⟩
      have hdrop : src.items.drop i = x :: src.items.drop (i + 1) := by
        rw [List.drop_eq_getElem_cons hlt]
        rw [List.getElem?_eq_getElem hlt] at hx
        cases hx; rfl
      rw [hdrop] at p2
      simp only [lcRun] at p2
      split at p2
      · rename_i y hy
        obtain ⟨go, yl⟩ := wk.go i x hx T2 S' y e2.sub s2 hy
        refine ⟨go, fun H' => ∃ T S' accD acc, T.H = H' ∧ SOk X.K T S' ∧ T.pr D ∧ ¬ T.fr D ∧ T.H D = some (.lst acc) ∧ RepL X.K T accD acc ∧ Ext T1 T ∧ i + 1 ≤ src.items.length ∧
          Post X.K (T.strip D) ((lcRun src body (src.items.drop (i + 1)) (i + 1) S').bind fun xs S3 => mkL b (accD ++ xs) S3) (kV' X.K Q), fun H' h => ⟨src.items.length - (i + 1), by omega, ?_⟩, fun v H' hv => ?_⟩
        · obtain ⟨T, S', accD, acc, h1, h2, h3, h4, h5, h6, h7, h8, h9⟩ := h
          exact ⟨T, S', accD, acc, h1, h2, h3, h4, h5, h6, h7, h8, rfl, h9⟩
        · obtain ⟨T3, rfl, e3, s3, rv⟩ := yl v H' hv
          have e13 := e2.trans e3
          subst hbd
          cases hg' : asgG g y (wipeE ρ (own.map (·.2))) with
          | none =>
            simp only [lcBody, hg'] at p2
            exact p2.elim
          | some ρ' =>
            simp only [lcBody, hg'] at p2
            refine ⟨T3, S', wipeE ρ (own.map (·.2)), y, ρ', rfl, s3, ((re.mono e1).mono e13).wipe _, rv, hg', fun σ2 re2 o2 => ⟨wipe_out o2 hgs, ?_⟩⟩
            cases hmc : mc ρ' S' with
            | ex _ _ _ => rw [hmc] at p2; exact p2.elim
            | no => rw [hmc] at p2; exact p2.elim
            | ok k S4 =>
              rw [hmc] at p2
              refine ⟨T3, ρ', S', rfl, s3, re2, ?_⟩
              rw [hmc]
              intro T4 e4 s4
              have e24 := e3.trans e4
              cases k with
              | false =>
                have p2 : Post X.K (T2.strip D) (((lcRun src _ (src.items.drop (i + 1)) (i + 1) S4).bind fun r S'' => .ok r S'').bind fun xs S3 => mkL b (accD ++ xs) S3) (kV' X.K Q) := p2
                rw [R.bind_assoc] at p2
                dsimp only [kB]
                rw [if_neg (by decide)]
                obtain ⟨q1, q2, q3⟩ := e24.pr D hpD
                exact ⟨T4, S4, accD, acc, rfl, s4, q1, fun z => hfD (q3 z), q2.trans hDD, rA.mono e24, e13.trans e4, hlt, p2.mono (ext_strip hfD e24)⟩
              | true =>
                dsimp only [kB]
                rw [if_pos rfl]
                cases hme : me ρ' S4 with
                | ex _ _ _ => simp only [R.bind_ok, if_true, hme] at p2; exact p2.elim
                | no => simp only [R.bind_ok, if_true, hme] at p2; exact p2.elim
                | ok d S5 =>
                  simp only [R.bind_ok, if_true, hme, R.noex_ok] at p2
                  rw [R.bind_assoc] at p2
                  refine ⟨T4, ρ', S4, rfl, s4, re2.mono e4, ?_⟩
                  rw [hme]
                  intro T5 e5 s5 v5 r5
                  have e25 := e24.trans e5
                  obtain ⟨q1, q2, q3⟩ := e25.pr D hpD
                  have nf5 : ¬ T5.fr D := fun z => hfD (q3 z)
                  have h5 := q2.trans hDD
                  refine ⟨acc, h5, ?_, T5.setH D (.lst (acc ++ [v5])), S5, accD ++ [d], acc ++ [v5], rfl, sok_setD s5 nf5 q1 h5, q1, nf5, upd_same, ?_, ?_, hlt, ?_⟩
                  · cases hr : lcRun src (lcBody g (own.map (·.2)) mc me ρ) (src.items.drop (i + 1)) (i + 1) S5 with
                    | ex _ _ _ => rw [hr] at p2; exact p2.elim
                    | no => rw [hr] at p2; exact p2.elim
                    | ok zs S6 =>
                      rw [hr] at p2
                      have hl := mkL_len (m := b) (xs := accD ++ (d :: zs)) (S := S6) p2
                      rw [List.length_append, rA.length] at hl
                      exact Nat.lt_of_le_of_lt (Nat.le_trans (Nat.le_add_right _ _) hl) LMAX_lt
                  · exact RepL.append ((rA.mono e25).sub (sub_setD nf5)) (.cons (r5.sub (sub_setD nf5)) .nil)
                  · exact ext_setD (acc' := []) nf5 (e13.trans (e4.trans e5)) np1
                  · rw [strip_set]
                    have p3 := p2.mono (ext_strip hfD e25)
                    simpa only [R.bind_ok, List.append_assoc, List.singleton_append] using p3
      · exact p2.elim
    · left
      have hie : i = src.items.length := by omega
      subst hie
      rw [List.drop_eq_nil_of_le (Nat.le_refl _)] at p2
      simp only [lcRun] at p2
      split at p2
      · rename_i S3 hf
        refine ⟨wk.stop T2 S' S3 e2.sub s2 hf, ?_⟩
        have hS : S3 = S' := src_fin_eq hf
        subst hS
        have p3 : Post X.K (T2.strip D) (mkL b accD S3) (kV' X.K Q) := by simpa only [R.bind_ok, List.append_nil] using p2
        have q := mkL_ok (p := D) hss (rA.sub (sub_strip hfD)) p3 strip_eq
        have hH : upd (T2.strip D).H D (.lst acc) = T2.H := by
          funext a
          by_cases e : a = D
          · rw [e, upd_same, hDD]
          · rw [upd_ne e, strip_ne e]
        rw [hH] at q
        exact q
      · exact p2.elim
theorem okE_lc {elt tg iter : Expr} {ifs : List Expr} {scope : Scope} {own : List (Str × Nat)} {pos : Pos} {b : Bool} {g : G} {mi : Sem1 Src} {mc : Sem1 Bool} {me : Sem1 D} (hc : X.calm = true) (hN : X.N.Nodup) (hi : OkI X tg iter mi) (ok : BlkOk X.N X.env.scope scope own)
    (hgs : ∀ i ∈ g.slots, i ∈ own.map (·.2))
    (hg : ∀ (s : Shared) (H : Hp) (C : Addr) (cl : List (Str × Addr)) (fp : List Addr), PG (X.blk s H scope (compEnvC scope cl C X.env) fp) tg (gG X.K g)) (ht : ∀ (s : Shared) (H : Hp) (C : Addr) (cl : List (Str × Addr)) (fp : List Addr), PTs (X.blk s H scope (compEnvC scope cl C X.env) fp) ifs (tB' X.K mc))
    (he : ∀ (s : Shared) (H : Hp) (C : Addr) (cl : List (Str × Addr)) (fp : List Addr), PE (X.blk s H scope (compEnvC scope cl C X.env) fp) elt (tE X.K me)) (hs : ∀ x, foldedSetIterable iter X.env x = pure x) :
    OkE X (.ListComp elt [⟨tg, iter, ifs, 0⟩] scope pos) (fun ρ S => (mi ρ S).bind fun src S1 => (lcRun src (lcBody g (own.map (·.2)) mc me ρ) src.items 0 S1).bind fun xs S3 => mkL b xs S3) :=
  pe_weak (pe_lc hc hN hi ok hg ht he hs) fun σ H Q h => lc_reads hgs h
end
end LH

namespace LH
open PySem PySem.W L2 PySem.Spec PyProof.Rows
/-! ## two clauses -/
theorem Sub.trans {T T1 T2 : Tr} (a : Sub T T1) (b : Sub T1 T2) : Sub T T2 where
  fr := fun x h => b.fr x (a.fr x h)
  hp := fun x u h r => by
    rcases a.hp x u h r with z | ⟨d, o, z⟩
    · exact b.hp x u (a.fr x h) z
    · rcases b.hp x _ (a.fr x h) z with y | ⟨y, _⟩
      · exact .inr ⟨d, o, y⟩
      · exact y.elim
  mu := fun n h => (b.mu n (Nat.lt_of_lt_of_le h a.N)).trans (a.mu n h)
  N := Nat.le_trans a.N b.N
/-- what stands while a list is made at D: T1 before it -/
structure MkSt (K : Frag) (T1 : Tr) (D : Addr) (T : Tr) (S : Store) (accD : List LH.D) (acc : List V) : Prop where
  so : SOk K T S
  pr : T.pr D
  nf : ¬ T.fr D
  at_ : T.H D = some (.lst acc)
  rep : RepL K T accD acc
  ext : Ext T1 T
section
variable {X : Cx}
theorem REnv.sub {K : Frag} {T T' : Tr} {ρ : Env} {σ : L2.St} (h : REnv K T ρ σ) (e : Sub T T') : REnv K T' ρ σ :=
  ⟨h.1, fun i d q => let ⟨v, a, b⟩ := h.2 i d q; ⟨v, a, b.sub e⟩⟩
/-- the second clause's loop: what it makes goes into the list at D -/
theorem lc_inner {g1 : G} {mc1 : Sem1 Bool} {me : Sem1 LH.D} {ρ : Env} {σ : L2.St} {src : Src} {J : It} {T0 T1 : Tr} {D : Addr} {S0 : Store} {aD0 : List LH.D} {a0 : List V} {cont : List LH.D → Store → R LH.D} {Q : VK} {Nx : Hp → Prop}
    (wk : WalkOk X.K T0 src J) (re : REnv X.K T0 ρ σ) (np1 : ¬ T1.pr D) (st0 : MkSt X.K T1 D T0 S0 aD0 a0)
    (hlen : ∀ xs S T, Post X.K T (cont xs S) (kV' X.K Q) → xs.length ≤ LMAX)
    (hN : ∀ T S accD acc, MkSt X.K T1 D T S accD acc → Sub T0 T → Post X.K (T.strip D) (cont accD S) (kV' X.K Q) → Nx T.H)
    (p : Post X.K (T0.strip D) ((lcRun src (lcBody g1 g1.slots mc1 me ρ) src.items 0 S0).bind fun zs S3 => cont (aD0 ++ zs) S3) (kV' X.K Q)) :
    ∃ W1 : Nat → Nat → Hp → Prop, (∃ m, W1 0 m T0.H) ∧ ∀ j k H, W1 j k H →
      (J.stop j H ∧ Nx H) ∨ (J.go j H ∧ ∃ Nx1 : Hp → Prop, (∀ H', Nx1 H' → ∃ k', k' < k ∧ W1 (j + 1) k' H') ∧ ∀ x H', J.yld j H x H' → gG X.K g1 x (L2.wipe σ g1.slots) H' fun σ3 H5 => L2.wipe σ3 g1.slots = L2.wipe σ g1.slots ∧ tB' X.K mc1 σ3 H5 fun b H6 =>
        if b = true then tE X.K me σ3 H6 fun y H7 => ∃ acc, H7 D = some (.lst acc) ∧ acc.length < sizeLine ∧ Nx1 (upd H7 D (.lst (acc ++ [y]))) else Nx1 H6) := by
  generalize hbd : lcBody g1 g1.slots mc1 me ρ = body at p
  refine ⟨fun i m H => ∃ T S accD acc, T.H = H ∧ MkSt X.K T1 D T S accD acc ∧ Sub T0 T ∧ i ≤ src.items.length ∧ m = src.items.length - i ∧
    Post X.K (T.strip D) ((lcRun src body (src.items.drop i) i S).bind fun zs S3 => cont (accD ++ zs) S3) (kV' X.K Q), ⟨src.items.length - 0, T0, S0, aD0, a0, rfl, st0, (Ext.refl T0).sub, Nat.zero_le _, rfl, by rw [List.drop_zero]; exact p⟩, ?_⟩
  rintro i m H ⟨T2, S', accD, acc, rfl, ⟨s2, hpD, hfD, hDD, rA, e2⟩, u2, hi, rfl, p2⟩
  have hss : SOk X.K (T2.strip D) S' := sok_strip s2 hfD hpD hDD
  by_cases hlt : i < src.items.length
  · right
    obtain ⟨x, hx⟩ : ∃ x, src.items[i]? = some x := ⟨_, List.getElem?_eq_getElem hlt⟩
    have hdrop : src.items.drop i = x :: src.items.drop (i + 1) := by
      rw [List.drop_eq_getElem_cons hlt]
      rw [List.getElem?_eq_getElem hlt] at hx
      cases hx; rfl
    rw [hdrop] at p2
    simp only [lcRun] at p2
    split at p2
    · rename_i y hy
      obtain ⟨go, yl⟩ := wk.go i x hx T2 S' y u2 s2 hy
      refine ⟨go, fun H' => ∃ T S accD acc, T.H = H' ∧ MkSt X.K T1 D T S accD acc ∧ Sub T0 T ∧ i + 1 ≤ src.items.length ∧
        Post X.K (T.strip D) ((lcRun src body (src.items.drop (i + 1)) (i + 1) S).bind fun zs S3 => cont (accD ++ zs) S3) (kV' X.K Q), fun H' h => ⟨src.items.length - (i + 1), by omega, ?_⟩, fun v H' hv => ?_⟩
      · obtain ⟨T, S', accD, acc, h1, h2, h3, h8, h9⟩ := h
        exact ⟨T, S', accD, acc, h1, h2, h3, h8, rfl, h9⟩
      · obtain ⟨T3, rfl, e3, s3, rv⟩ := yl v H' hv
        have e13 := e2.trans e3
        have u3 := u2.trans e3.sub
        subst hbd
        cases hg' : asgG g1 y (wipeE ρ g1.slots) with
        | none =>
          simp only [lcBody, hg'] at p2
          exact p2.elim
        | some ρ' =>
          simp only [lcBody, hg'] at p2
          refine ⟨T3, S', wipeE ρ g1.slots, y, ρ', rfl, s3, (re.sub u3).wipe _, rv, hg', fun σ2 re2 o2 => ⟨wipe_out o2 fun _ h => h, ?_⟩⟩
          cases hmc : mc1 ρ' S' with
          | ex _ _ _ => rw [hmc] at p2; exact p2.elim
          | no => rw [hmc] at p2; exact p2.elim
          | ok k S4 =>
            rw [hmc] at p2
            refine ⟨T3, ρ', S', rfl, s3, re2, ?_⟩
            rw [hmc]
            intro T4 e4 s4
            have e24 := e3.trans e4
            have u4 := u3.trans e4.sub
            cases k with
            | false =>
              have p2 : Post X.K (T2.strip D) (((lcRun src _ (src.items.drop (i + 1)) (i + 1) S4).bind fun r S'' => .ok r S'').bind fun zs S3 => cont (accD ++ zs) S3) (kV' X.K Q) := p2
              rw [R.bind_assoc] at p2
              dsimp only [kB]
              rw [if_neg (by decide)]
              obtain ⟨q1, q2, q3⟩ := e24.pr D hpD
              exact ⟨T4, S4, accD, acc, rfl, ⟨s4, q1, fun z => hfD (q3 z), q2.trans hDD, rA.mono e24, e13.trans e4⟩, u4, hlt, p2.mono (ext_strip hfD e24)⟩
            | true =>
              dsimp only [kB]
              rw [if_pos rfl]
              cases hme : me ρ' S4 with
              | ex _ _ _ => simp only [R.bind_ok, if_true, hme] at p2; exact p2.elim
              | no => simp only [R.bind_ok, if_true, hme] at p2; exact p2.elim
              | ok d S5 =>
                simp only [R.bind_ok, if_true, hme, R.noex_ok] at p2
                rw [R.bind_assoc] at p2
                refine ⟨T4, ρ', S4, rfl, s4, re2.mono e4, ?_⟩
                rw [hme]
                intro T5 e5 s5 v5 r5
                have e25 := e24.trans e5
                obtain ⟨q1, q2, q3⟩ := e25.pr D hpD
                have nf5 : ¬ T5.fr D := fun z => hfD (q3 z)
                have h5 := q2.trans hDD
                refine ⟨acc, h5, ?_, T5.setH D (.lst (acc ++ [v5])), S5, accD ++ [d], acc ++ [v5], rfl, ⟨sok_setD s5 nf5 q1 h5, q1, nf5, upd_same, ?_, ?_⟩, (u4.trans e5.sub).trans (sub_setD nf5), hlt, ?_⟩
                · cases hr : lcRun src (lcBody g1 g1.slots mc1 me ρ) (src.items.drop (i + 1)) (i + 1) S5 with
                  | ex _ _ _ => rw [hr] at p2; exact p2.elim
                  | no => rw [hr] at p2; exact p2.elim
                  | ok zs S6 =>
                    rw [hr] at p2
                    have hl := hlen (accD ++ (d :: zs)) S6 _ p2
                    rw [List.length_append, rA.length] at hl
                    exact Nat.lt_of_le_of_lt (Nat.le_trans (Nat.le_add_right _ _) (by simp only [List.length_cons] at hl ⊢; omega)) LMAX_lt
                · exact RepL.append ((rA.mono e25).sub (sub_setD nf5)) (.cons (r5.sub (sub_setD nf5)) .nil)
                · exact ext_setD (acc' := []) nf5 (e13.trans (e4.trans e5)) np1
                · rw [strip_set]
                  have p3 := p2.mono (ext_strip hfD e25)
                  simpa only [R.bind_ok, List.append_assoc, List.singleton_append] using p3
    · exact p2.elim
  · left
    have hie : i = src.items.length := by omega
    subst hie
    rw [List.drop_eq_nil_of_le (Nat.le_refl _)] at p2
    simp only [lcRun] at p2
    split at p2
    · rename_i S3 hf
      refine ⟨wk.stop T2 S' S3 u2 s2 hf, ?_⟩
      have hS := src_fin_eq hf
      subst hS
      exact hN T2 S3 accD acc ⟨s2, hpD, hfD, hDD, rA, e2⟩ u2 (by simpa only [R.bind_ok, List.append_nil] using p2)
    · exact p2.elim
theorem lc2_reads {own : List (Str × Nat)} {b : Bool} {g g1 : G} {mi : Sem1 Src} {mc : Sem1 Bool} {mi1 : Sem1 Src} {mc1 : Sem1 Bool} {me : Sem1 LH.D} (hgs : ∀ i ∈ g.slots, i ∈ own.map (·.2)) {σ : L2.St} {H : Hp} {Q : VK}
    (h : tE X.K (fun ρ S => (mi ρ S).bind fun src S1 => (lcRunL src (lcBody2 g (own.map (·.2)) mc mi1 g1 mc1 me ρ) src.items 0 S1).bind fun xs S3 => mkL b xs S3) σ H Q) : tLc2 (tI X.K mi) (gG X.K g) (tB' X.K mc) (tI X.K mi1) (gG X.K g1) (tB' X.K mc1) (tE X.K me) (own.map (·.2)) g1.slots σ H Q := by
  obtain ⟨T, ρ, S, rfl, so, re, p⟩ := h
  refine ⟨T, ρ, S, rfl, so, re, p.bind.imp fun src S1 T1 e1 s1 p1 J wk D hD => ?_⟩
  generalize hbd : lcBody2 g (own.map (·.2)) mc mi1 g1 mc1 me ρ = body at p1
  have nf1 : ¬ T1.fr D := fun z => s1.frn D z hD
  have np1 : ¬ T1.pr D := fun z => s1.prn D z hD
  refine ⟨fun i m H => ∃ T S' accD acc, T.H = H ∧ MkSt X.K T1 D T S' accD acc ∧ i ≤ src.items.length ∧ m = src.items.length - i ∧
    Post X.K (T.strip D) ((lcRunL src body (src.items.drop i) i S').bind fun xs S3 => mkL b (accD ++ xs) S3) (kV' X.K Q), ⟨src.items.length - 0, T1.putP D (.lst []), S1, [], [], rfl, ⟨sok_putP s1 hD (fun _ z => nomatch z), .inr rfl, nf1, upd_same, .nil, ext_putP s1 hD⟩, Nat.zero_le _, rfl, ?_⟩, ?_⟩
  · rw [List.drop_zero]
    have ee : Ext T1 ((T1.putP D (.lst [])).strip D) := by
      rw [strip_put hD]
      exact ⟨fun _ z => z, fun _ _ _ r => .inl r, fun a z => ⟨⟨.inl z, fun q => np1 (q ▸ z)⟩, rfl, fun q => q⟩, fun _ _ => rfl, Nat.le_refl _⟩
    exact p1.mono ee
  · rintro i m H ⟨T2, S', accD, acc, rfl, ⟨s2, hpD, hfD, hDD, rA, e2⟩, hi, rfl, p2⟩
    have hss : SOk X.K (T2.strip D) S' := sok_strip s2 hfD hpD hDD
    by_cases hlt : i < src.items.length
    · right
      obtain ⟨x, hx⟩ : ∃ x, src.items[i]? = some x := ⟨_, List.getElem?_eq_getElem hlt⟩
      have hdrop : src.items.drop i = x :: src.items.drop (i + 1) := by
        rw [List.drop_eq_getElem_cons hlt]
        rw [List.getElem?_eq_getElem hlt] at hx
        cases hx; rfl
      rw [hdrop] at p2
      simp only [lcRunL] at p2
      split at p2
      · rename_i y hy
        obtain ⟨go, yl⟩ := wk.go i x hx T2 S' y e2.sub s2 hy
        refine ⟨go, fun H' => ∃ T S' accD acc, T.H = H' ∧ MkSt X.K T1 D T S' accD acc ∧ i + 1 ≤ src.items.length ∧
          Post X.K (T.strip D) ((lcRunL src body (src.items.drop (i + 1)) (i + 1) S').bind fun xs S3 => mkL b (accD ++ xs) S3) (kV' X.K Q), fun H' h => ⟨src.items.length - (i + 1), by omega, ?_⟩, fun v H' hv => ?_⟩
        · obtain ⟨T, S', accD, acc, h1, h2, h8, h9⟩ := h
          exact ⟨T, S', accD, acc, h1, h2, h8, rfl, h9⟩
        · obtain ⟨T3, rfl, e3, s3, rv⟩ := yl v H' hv
          have e13 := e2.trans e3
          subst hbd
          cases hg' : asgG g y (wipeE ρ (own.map (·.2))) with
          | none =>
            simp only [lcBody2, hg'] at p2
            exact p2.elim
          | some ρ' =>
            simp only [lcBody2, hg'] at p2
            refine ⟨T3, S', wipeE ρ (own.map (·.2)), y, ρ', rfl, s3, ((re.mono e1).mono e13).wipe _, rv, hg', fun σ2 re2 o2 => ⟨wipe_out o2 hgs, ?_⟩⟩
            cases hmc : mc ρ' S' with
            | ex _ _ _ => rw [hmc] at p2; exact p2.elim
            | no => rw [hmc] at p2; exact p2.elim
            | ok k S4 =>
              rw [hmc] at p2
              refine ⟨T3, ρ', S', rfl, s3, re2, ?_⟩
              rw [hmc]
              intro T4 e4 s4
              have e24 := e3.trans e4
              obtain ⟨q1, q2, q3⟩ := e24.pr D hpD
              have nf4 : ¬ T4.fr D := fun z => hfD (q3 z)
              cases k with
              | false =>
                have p2 : Post X.K (T2.strip D) (((lcRunL src _ (src.items.drop (i + 1)) (i + 1) S4).bind fun r S'' => .ok ([] ++ r) S'').bind fun xs S3 => mkL b (accD ++ xs) S3) (kV' X.K Q) := p2
                rw [R.bind_assoc] at p2
                dsimp only [kB]
                rw [if_neg (by decide)]
                exact ⟨T4, S4, accD, acc, rfl, ⟨s4, q1, nf4, q2.trans hDD, rA.mono e24, e13.trans e4⟩, hlt, p2.mono (ext_strip hfD e24)⟩
              | true =>
                dsimp only [kB]
                rw [if_pos rfl]
                cases hmi : mi1 ρ' S4 with
                | ex _ _ _ => simp only [R.bind_ok, if_true, hmi] at p2; exact p2.elim
                | no => simp only [R.bind_ok, if_true, hmi] at p2; exact p2.elim
                | ok src1 S5 =>
                  simp only [R.bind_ok, if_true, hmi] at p2
                  refine ⟨T4, ρ', S4, rfl, s4, re2.mono e4, ?_⟩
                  rw [hmi]
                  intro T5 e5 s5 J1 wk1
                  have e25 := e24.trans e5
                  obtain ⟨r1, r2, r3⟩ := e25.pr D hpD
                  have nf5 : ¬ T5.fr D := fun z => hfD (r3 z)
                  refine lc_inner (T1 := T1) (aD0 := accD) (a0 := acc) (Q := Q) (S0 := S5) (cont := fun xs S6 => (lcRunL src (lcBody2 g (own.map (·.2)) mc mi1 g1 mc1 me ρ) (src.items.drop (i + 1)) (i + 1) S6).bind fun zs S3 => mkL b (xs ++ zs) S3) wk1 ((re2.mono e4).mono e5) np1 ⟨s5, r1, nf5, r2.trans hDD, rA.mono e25, e13.trans (e4.trans e5)⟩ ?_ ?_ ?_
                  · intro xs S6 T6 p6
                    cases hr : lcRunL src (lcBody2 g (own.map (·.2)) mc mi1 g1 mc1 me ρ) (src.items.drop (i + 1)) (i + 1) S6 with
                    | ex _ _ _ => rw [hr] at p6; exact p6.elim
                    | no => rw [hr] at p6; exact p6.elim
                    | ok zs S7 =>
                      rw [hr] at p6
                      have hl := mkL_len (m := b) (xs := xs ++ zs) (S := S7) p6
                      rw [List.length_append] at hl
                      omega
                  · intro T6 S6 aD a m6 u6 p6
                    exact ⟨T6, S6, aD, a, rfl, m6, hlt, p6⟩
                  · have p3 := p2.mono (ext_strip hfD e25)
                    cases hr : lcRun src1 (lcBody g1 g1.slots mc1 me ρ') src1.items 0 S5 with
                    | ex _ _ _ => rw [hr] at p3; exact p3.elim
                    | no => rw [hr] at p3; exact p3.elim
                    | ok zs S7 =>
                      rw [hr] at p3
                      simp only [R.noex_ok, R.bind_ok] at p3 ⊢
                      rw [R.bind_assoc] at p3
                      simpa only [R.bind_ok, List.append_assoc] using p3
      · exact p2.elim
    · left
      have hie : i = src.items.length := by omega
      subst hie
      rw [List.drop_eq_nil_of_le (Nat.le_refl _)] at p2
      simp only [lcRunL] at p2
      split at p2
      · rename_i S3 hf
        refine ⟨wk.stop T2 S' S3 e2.sub s2 hf, ?_⟩
        have hS := src_fin_eq hf
        subst hS
        have p3 : Post X.K (T2.strip D) (mkL b accD S3) (kV' X.K Q) := by simpa only [R.bind_ok, List.append_nil] using p2
        have q := mkL_ok (p := D) hss (rA.sub (sub_strip hfD)) p3 strip_eq
        have hH : upd (T2.strip D).H D (.lst acc) = T2.H := by
          funext a
          by_cases e : a = D
          · rw [e, upd_same, hDD]
          · rw [upd_ne e, strip_ne e]
        rw [hH] at q
        exact q
      · exact p2.elim
theorem okE_lc2 {elt tg iter tg1 iter1 : Expr} {ifs ifs1 : List Expr} {scope : Scope} {own : List (Str × Nat)} {pos : Pos} {b : Bool} {g g1 : G} {mi mi1 : Sem1 Src} {mc mc1 : Sem1 Bool} {me : Sem1 LH.D} (hc : X.calm = true) (hN : X.N.Nodup) (hi : OkI X tg iter mi) (ok : BlkOk X.N X.env.scope scope own)
    (hgs : ∀ i ∈ g.slots, i ∈ own.map (·.2)) (hgs1 : ∀ i ∈ g1.slots, i ∈ own.map (·.2))
    (hg : ∀ (s : Shared) (H : Hp) (C : Addr) (cl : List (Str × Addr)) (fp : List Addr), PG (X.blk s H scope (compEnvC scope cl C X.env) fp) tg (gG X.K g)) (ht : ∀ (s : Shared) (H : Hp) (C : Addr) (cl : List (Str × Addr)) (fp : List Addr), PTs (X.blk s H scope (compEnvC scope cl C X.env) fp) ifs (tB' X.K mc))
    (hi1 : ∀ (s : Shared) (H : Hp) (C : Addr) (cl : List (Str × Addr)) (fp : List Addr), PI (X.blk s H scope (compEnvC scope cl C X.env) fp) tg1 iter1 (tI X.K mi1))
    (hg1 : ∀ (s : Shared) (H : Hp) (C : Addr) (cl : List (Str × Addr)) (fp : List Addr), PG (X.blk s H scope (compEnvC scope cl C X.env) fp) tg1 (gG X.K g1)) (ht1 : ∀ (s : Shared) (H : Hp) (C : Addr) (cl : List (Str × Addr)) (fp : List Addr), PTs (X.blk s H scope (compEnvC scope cl C X.env) fp) ifs1 (tB' X.K mc1))
    (he : ∀ (s : Shared) (H : Hp) (C : Addr) (cl : List (Str × Addr)) (fp : List Addr), PE (X.blk s H scope (compEnvC scope cl C X.env) fp) elt (tE X.K me)) (hs : ∀ x, foldedSetIterable iter X.env x = pure x) (hs1 : ∀ env x, foldedSetIterable iter1 env x = pure x) :
    OkE X (.ListComp elt [⟨tg, iter, ifs, 0⟩, ⟨tg1, iter1, ifs1, 0⟩] scope pos) (fun ρ S => (mi ρ S).bind fun src S1 => (lcRunL src (lcBody2 g (own.map (·.2)) mc mi1 g1 mc1 me ρ) src.items 0 S1).bind fun xs S3 => mkL b xs S3) :=
  pe_weak (pe_lc2 hc hN hi ok hgs1 hg ht hi1 hg1 ht1 he hs hs1) fun σ H Q h => lc2_reads hgs h
end
end LH

namespace LH
open PySem PySem.W L2 PySem.Spec PyProof.Rows
/-! ## dict displays -/
def pairsV : List V → List (V × V)
  | a :: b :: r => (a, b) :: pairsV r
  | _ => []
section
variable {X : Cx}
/-- the pairs of a display, read -/
def tP (K : Frag) (m : Sem1 (List D)) : L2.St → Hp → (List (V × V) → Hp → Prop) → Prop := fun σ H Q => ∃ T ρ S, T.H = H ∧ SOk K T S ∧ REnv K T ρ σ ∧ Post K T (m ρ S) fun ds _ T' => ∀ vs, RepL K T' ds vs → Q (pairsV vs) T'.H
def OkPP (X : Cx) (pos : Pos) (keys : List (Option Expr)) (values : List Expr) (m : Sem1 (List D)) : Prop := ∃ trs, PPs X pos keys values trs ∧ ∀ σ H Q, tP X.K m σ H Q → tPairs trs σ H Q
theorem okPP_eq {pos : Pos} {ks : List (Option Expr)} {vs : List Expr} {m m' : Sem1 (List D)} (h : OkPP X pos ks vs m) (e : ∀ ρ S, m' ρ S = m ρ S) : OkPP X pos ks vs m' := by
  have : m' = m := funext fun ρ => funext fun S => e ρ S
  rw [this]; exact h
theorem okPP_nil {pos : Pos} : OkPP X pos [] [] (fun _ S => .ok [] S) := ⟨[], pps_nil, by
  rintro σ H Q ⟨T, ρ, S, rfl, so, re, p⟩
  exact p T (.refl T) so [] .nil⟩
theorem okPP_cons {pos : Pos} {k v : Expr} {ks : List (Option Expr)} {vs : List Expr} {mk mv : Sem1 D} {mr : Sem1 (List D)} (hk : OkE X k mk) (hv : OkE X v mv) (hr : OkPP X pos ks vs mr) :
    OkPP X pos (some k :: ks) (v :: vs) (fun ρ S => (mk ρ S).bind fun x S1 => (mv ρ S1).bind fun y S2 => (mr ρ S2).bind fun zs S3 => .ok (x :: y :: zs) S3) := by
  obtain ⟨trs, hp, hq⟩ := hr
  refine ⟨_, pps_cons hk hv hp, ?_⟩
  rintro σ H Q ⟨T, ρ, S, rfl, so, re, p⟩
  refine ⟨T, ρ, S, rfl, so, re, p.bind.imp fun d1 S1 T1 e1 s1 p1 v1 r1 => ⟨T1, ρ, S1, rfl, s1, re.mono e1, p1.bind.imp fun d2 S2 T2 e2 s2 p2 v2 r2 => hq _ _ _ ⟨T2, ρ, S2, rfl, s2, (re.mono e1).mono e2, p2.bind.imp fun ds S3 T3 e3 s3 p3 us rs => ?_⟩⟩⟩
  exact p3.now s3 (v1 :: v2 :: us) (.cons ((r1.mono e2).mono e3) (.cons (r2.mono e3) rs))
theorem keysP_rep {K : Frag} {T : Tr} : ∀ {xs : List D} {ps : List (KY × D)} {vs : List V}, RepL K T xs vs → keysP xs = some ps →
    ∃ kvs : List (Key × V), pairsV vs = kvs.map (fun kv => (kV kv.1, kv.2)) ∧ ps.map (·.1) = kvs.map (fun p => KY.k p.1) ∧ RepL K T (ps.map (·.2)) (kvs.map (·.2))
  | [], ps, _, r, e => by
    simp only [keysP, Option.some.injEq] at e; subst e
    rw [r.nil_inv]
    exact ⟨[], rfl, rfl, .nil⟩
  | [_], ps, _, r, e => by simp [keysP] at e
  | a :: b :: rr, ps, _, r, e => by
    obtain ⟨v, r', rfl, h1, h2⟩ := r.cons_inv
    obtain ⟨u, r'', rfl, h3, h4⟩ := h2.cons_inv
    unfold keysP at e
    split at e
    · rename_i k kvs ek er
      split at e
      · cases e
      · rename_i ht
        cases e
        obtain ⟨kk, i1, i2, i3⟩ := keysP_rep h4 er
        rcases key_rep h1 ek with ⟨x, rfl, rfl⟩ | ⟨ks, q, rfl, _, _⟩
        · exact ⟨(x, u) :: kk, by simp [pairsV, i1], by simp [i2], .cons h3 i3⟩
        · exact absurd rfl ht
    · cases e
theorem okE_dd {pos : Pos} {b : Bool} {keys : List (Option Expr)} {values : List Expr} {ml : Sem1 (List D)} (h : OkPP X pos keys values ml) (hall : keys.all (·.isSome) = true) (hl : keys.length = values.length) (h0 : keys ≠ []) (h15 : keys.length ≤ 15) :
    OkE X (.Dict keys values pos) (fun ρ S => (ml ρ S).bind fun xs S1 => match keysP xs with
    | some kvs => if kvs.length ≤ 15 then mkD b false (mergeA [] kvs) S1 else .no
    | none => .no) := by
  obtain ⟨trs, hp, hq⟩ := h
  refine pe_weak (pe_disp hp hall hl h0 h15) ?_
  rintro σ H Q ⟨T, ρ, S, rfl, so, re, p⟩
  have p : Post X.K T ((ml ρ S).bind fun xs S1 => match keysP xs with
    | some kvs => if kvs.length ≤ 15 then mkD b false (mergeA [] kvs) S1 else .no
    | none => .no) (kV' X.K Q) := p
  intro D hD
  have nf1 : ¬ T.fr D := fun z => so.frn D z hD
  have np1 : ¬ T.pr D := fun z => so.prn D z hD
  have ee : Ext T ((T.putP D (.dK [])).strip D) := by
    rw [strip_put hD]
    exact ⟨fun _ z => z, fun _ _ _ r => .inl r, fun a z => ⟨⟨.inl z, fun q => np1 (q ▸ z)⟩, rfl, fun q => q⟩, fun _ _ => rfl, Nat.le_refl _⟩
  refine hq _ _ _ ⟨T.putP D (.dK []), ρ, S, rfl, sok_putP so hD (fun _ z => nomatch z), re.mono (ext_putP so hD), ?_⟩
  cases hm : ml ρ S with
  | ex _ _ _ => rw [hm] at p; exact p.elim
  | no => rw [hm] at p; exact p.elim
  | ok ds S1 =>
    rw [hm] at p
    intro T1 e1 s1 vs rs
    obtain ⟨q1, q2, q3⟩ := e1.pr D (.inr rfl)
    have nf2 : ¬ T1.fr D := fun z => nf1 (q3 z)
    have hDD : T1.H D = some (.dK []) := q2.trans upd_same
    have hss : SOk X.K (T1.strip D) S1 := sok_strip s1 nf2 q1 hDD
    have p1 := (p.mono ee).mono (ext_strip nf1 e1)
    simp only [R.bind_ok] at p1
    split at p1
    · rename_i kvs hk
      split at p1
      · rename_i h15'
        obtain ⟨kk, i1, i2, i3⟩ := keysP_rep rs hk
        refine ⟨hDD, kk, i1, by have := congrArg List.length i2; simp at this; omega, ?_⟩
        obtain ⟨j1, j2⟩ := mergeA_rep (acc := []) (us := []) rfl .nil i2 i3
        have q := mkD_ok (p := D) hss (.inl ⟨rfl, _, rfl, j1, rfl⟩) (j2.sub (sub_strip nf2)) p1 strip_eq
        have hH : upd (T1.strip D).H D (.dK (mergeK [] kk)) = upd T1.H D (.dK (mergeK [] kk)) := by
          funext a
          by_cases e : a = D
          · rw [e, upd_same, upd_same]
          · rw [upd_ne e, upd_ne e, strip_ne e]
        rw [hH] at q
        exact q
      · exact p1.elim
    · exact p1.elim
end
end LH

namespace LH
open PySem PySem.W L2 PySem.Spec PyProof.Rows
/-! ## dict displays whose keys are tuples -/
abbrev KBs := List (List Key × Addr × V)
def mergeT (kvs : List (List Key × V)) (more : KBs) : List (List Key × V) := more.foldl (fun acc x => putK acc x.1 x.2.2) kvs
theorem length_mergeT : ∀ (more : KBs) (kvs : List (List Key × V)), (mergeT kvs more).length ≤ kvs.length + more.length
  | [], kvs => by show kvs.length ≤ kvs.length + 0; omega
  | p :: r, kvs => by
    have h1 := length_mergeT r (putK kvs p.1 p.2.2)
    have h2 := length_putK kvs p.1 p.2.2
    show (mergeT (putK kvs p.1 p.2.2) r).length ≤ _
    rw [List.length_cons]; omega
theorem KT.merge {H : Hp} : ∀ {more : KBs} {rs : List (List Key × Addr × Value)} {kvs : List (List Key × V)} {xs : List (List Key × Addr × Value)},
    Paired (fun (p : List Key × Addr × V) (q : List Key × Addr × Value) => p.1 = q.1 ∧ p.2.1 = q.2.1 ∧ H q.2.1 = some (.tup (p.1.map kV)) ∧ RelV p.2.2 q.2.2) more rs → KT H kvs xs → KT H (mergeT kvs more) (storedAllH xs rs) := by
  intro more rs kvs xs r
  induction r generalizing kvs xs with
  | nil => intro q; exact q
  | @cons p q ps qs h t ih =>
    intro r0
    have e : KT H (putK kvs p.1 p.2.2) (storedH xs q.1 q.2.1 q.2.2) := by
      have := L2.KT.put r0 p.1 h.2.2.1 h.2.2.2
      rw [← h.1]; exact this
    exact ih e
theorem carries_ofT {P : Program} {w : World} {H : Hp} {h : Heap} (ok : HOk P w H h) : ∀ {kbs : KBs} {ws : List (Value × Value)}, (∀ x ∈ kbs, H x.2.1 = some (.tup (x.1.map kV))) → VV (kbs.map fun x => (.ref x.2.1, x.2.2)) ws →
    ∃ rs, CarriesH (tupleKind (mixKind P w)) h ws rs ∧ Paired (fun (p : List Key × Addr × V) (q : List Key × Addr × Value) => p.1 = q.1 ∧ p.2.1 = q.2.1 ∧ H q.2.1 = some (.tup (p.1.map kV)) ∧ RelV p.2.2 q.2.2) kbs rs
  | [], _, _, r => by rw [List.map_nil] at r; cases r; exact ⟨[], True.intro, .nil⟩
  | p :: kbs, _, hk, r => by
    rw [List.map_cons] at r
    cases r with
    | @cons a b as bs h1 t =>
      obtain ⟨rs, c, q⟩ := carries_ofT ok (fun x hx => hk x (List.mem_cons_of_mem _ hx)) t
      obtain ⟨b1, b2⟩ := b
      obtain ⟨e1, e2⟩ := h1
      have e1 : b1 = Value.ref p.2.1 := e1
      subst e1
      exact ⟨(p.1, p.2.1, b2) :: rs, ⟨rfl, rfl, key_of ok (hk p List.mem_cons_self), c⟩, .cons ⟨rfl, rfl, hk p List.mem_cons_self, e2⟩ q⟩
/-- {(k, k'): v, ..}; the new dict stands empty while the pairs are made -/
def tDispT (trs : List (TE × TE)) : TE := fun σ H Q => ∀ p, H p = none → tPairs trs σ (upd H p (.dT [])) fun ps H2 => H2 p = some (.dT []) ∧ ∃ kbs : KBs, ps = kbs.map (fun x => (.ref x.2.1, x.2.2)) ∧ (∀ x ∈ kbs, H2 x.2.1 = some (.tup (x.1.map kV))) ∧ kbs.length ≤ 15 ∧ Q (.ref p) (upd H2 p (.dT (mergeT [] kbs)))
theorem pe_dispT {X : Cx} {pos : Pos} {keys : List (Option Expr)} {values : List Expr} {trs : List (TE × TE)} (hu : X.A.units + 1 < cLine) (h : PPs X pos keys values trs) (hall : keys.all (·.isSome) = true) (hl : keys.length = values.length) (h0 : keys ≠ [])
    (h15 : keys.length ≤ 15) : PE X (.Dict keys values pos) (tDispT trs) := by
  refine ⟨fun pins s σ H Q I q => ?_⟩
  have hn := I.hok.fresh (Nat.le_refl s.heap.objs.size)
  have I1 := I.laid (a := s.heap.objs.size) (o := .dT []) (h' := s.heap.push { cls := .type "dict", data := .dict #[] }) (t' := s.toks) (fun _ _ q => Heap.get?_push_of_some _ q) (Nat.le_refl _) (dt_empty s.heap I.big)
  have hlen := pairTrees_length keys values X.env pos hall hl
  have hne : pairTrees keys values X.env pos ≠ [] := fun he => by
    rw [he] at hlen
    exact h0 (List.length_eq_zero_iff.mp hlen.symm)
  rw [arm_eval_Dict, zip_pairTrees keys values X.env pos hall hl, dictDisplay_pairs _ hne (by rw [hlen]; omega)]
  refine wpAny_bind (wpAny_standAt (wpAny_bind (wpAny_subDictH (knd := tupleKind (mixKind X.prog X.w)) (show X.A.units < cLine by omega) (by rw [hlen]; exact h15) ?_)))
  refine thn (h.run pins _ σ _ _ I1 (q _ hn)) fun ws s2 ⟨ps, H2, I2, rel, e, kbs, ep, hk, lk, q2⟩ => ?_
  subst ep
  obtain ⟨rs, c, rk⟩ := carries_ofT I2.hok hk rel
  obtain ⟨z, hd, xs0, r0, dd⟩ := dt_of I2.hok e
  cases r0
  refine ⟨rs, c, dd, fun h' tk dd' hs => wpAny_pure ⟨.ref s.heap.objs.size, _, ?_, rfl, q2⟩⟩
  have hz : (mergeT [] kbs).length ≤ sizeLine := by
    have h1 := length_mergeT kbs []
    rw [List.length_nil] at h1
    rw [sizeLine_eq]; omega
  obtain ⟨ob, es, ep', hq, h2, h3, h4, _, h5⟩ := dd'
  refine d_write I2 (by rw [e]; exact True.intro) hs ⟨ob, hq⟩ ⟨hz, hd, _, (KT.merge rk .nil).keeps fun c ys ec => ?_, ob, es, ep', hq, h2, h3, h4, h5⟩
  by_cases hcs : c = s.heap.objs.size
  · rw [hcs, e] at ec
    cases ec
  · rw [upd_ne hcs]
    exact ec
theorem keysT_repL {K : Frag} {T : Tr} : ∀ {xs : List D} {ps : List (KY × D)} {vs : List V}, RepL K T xs vs → keysT xs = some ps →
    ∃ kbs : KBs, pairsV vs = kbs.map (fun x => (.ref x.2.1, x.2.2)) ∧ (∀ x ∈ kbs, T.H x.2.1 = some (.tup (x.1.map kV))) ∧ ps.map (·.1) = kbs.map (fun p => KY.t p.1) ∧ RepL K T (ps.map (·.2)) (kbs.map (·.2.2))
  | [], ps, _, r, e => by
    simp only [keysT, Option.some.injEq] at e; subst e
    rw [r.nil_inv]
    exact ⟨[], rfl, (fun x hx => by cases hx), rfl, .nil⟩
  | [_], ps, _, r, e => by simp [keysT] at e
  | a :: b :: rr, ps, _, r, e => by
    obtain ⟨v, r', rfl, h1, h2⟩ := r.cons_inv
    obtain ⟨u, r'', rfl, h3, h4⟩ := h2.cons_inv
    unfold keysT at e
    split at e
    · rename_i k kvs ek er
      split at e
      · rename_i ht
        cases e
        obtain ⟨kk, i1, i0, i2, i3⟩ := keysT_repL h4 er
        rcases key_rep h1 ek with ⟨x, rfl, rfl⟩ | ⟨ks, q, rfl, rfl, hq⟩
        · exact absurd ht (by simp [KY.ofT])
        · refine ⟨(ks, q, u) :: kk, by simp [pairsV, i1], fun x hx => ?_, by simp [i2], .cons h3 i3⟩
          rcases List.mem_cons.mp hx with rfl | hx
          · exact hq
          · exact i0 x hx
      · cases e
    · cases e
theorem mergeA_repT {K : Frag} {T : Tr} : ∀ {ps acc : List (KY × D)} {kbs : KBs} {us : List (List Key × V)}, acc.map (·.1) = us.map (fun p => KY.t p.1) → RepL K T (acc.map (·.2)) (us.map (·.2)) → ps.map (·.1) = kbs.map (fun p => KY.t p.1) → RepL K T (ps.map (·.2)) (kbs.map (·.2.2)) →
    (mergeA acc ps).map (·.1) = (mergeT us kbs).map (fun p => KY.t p.1) ∧ RepL K T ((mergeA acc ps).map (·.2)) ((mergeT us kbs).map (·.2))
  | [], acc, kbs, us, e1, r1, e2, _ => by
    cases kbs with
    | nil => exact ⟨e1, r1⟩
    | cons _ _ => simp at e2
  | p :: ps, acc, kbs, us, e1, r1, e2, r2 => by
    cases kbs with
    | nil => simp at e2
    | cons q kbs =>
      simp only [List.map_cons, List.cons.injEq] at e2
      obtain ⟨v', r', e3, h1, h2⟩ := r2.cons_inv
      simp only [List.map_cons, List.cons.injEq] at e3
      obtain ⟨rfl, rfl⟩ := e3
      obtain ⟨i1, i2⟩ := putA_rep (c := KY.t) (k := q.1) (fun _ _ z => KY.t.inj z) h1 e1 r1
      have := mergeA_repT i1 i2 e2.2 h2
      simp only [mergeA, mergeT, List.foldl_cons] at this ⊢
      rw [e2.1]
      exact this
section
variable {X : Cx}
theorem okE_ddt {pos : Pos} {b : Bool} {keys : List (Option Expr)} {values : List Expr} {ml : Sem1 (List D)} (hu : X.A.units + 65 < cLine) (h : OkPP X pos keys values ml) (hall : keys.all (·.isSome) = true) (hl : keys.length = values.length) (h0 : keys ≠ []) (h15 : keys.length ≤ 15) :
    OkE X (.Dict keys values pos) (fun ρ S => (ml ρ S).bind fun xs S1 => match keysT xs with
    | some kvs => if kvs.length ≤ 15 then mkD b true (mergeA [] kvs) S1 else .no
    | none => .no) := by
  obtain ⟨trs, hp, hq⟩ := h
  refine pe_weak (pe_dispT (by omega) hp hall hl h0 h15) ?_
  rintro σ H Q ⟨T, ρ, S, rfl, so, re, p⟩
  have p : Post X.K T ((ml ρ S).bind fun xs S1 => match keysT xs with
    | some kvs => if kvs.length ≤ 15 then mkD b true (mergeA [] kvs) S1 else .no
    | none => .no) (kV' X.K Q) := p
  intro D hD
  have nf1 : ¬ T.fr D := fun z => so.frn D z hD
  have np1 : ¬ T.pr D := fun z => so.prn D z hD
  have ee : Ext T ((T.putP D (.dT [])).strip D) := by
    rw [strip_put hD]
    exact ⟨fun _ z => z, fun _ _ _ r => .inl r, fun a z => ⟨⟨.inl z, fun q => np1 (q ▸ z)⟩, rfl, fun q => q⟩, fun _ _ => rfl, Nat.le_refl _⟩
  refine hq _ _ _ ⟨T.putP D (.dT []), ρ, S, rfl, sok_putP so hD (fun _ z => nomatch z), re.mono (ext_putP so hD), ?_⟩
  cases hm : ml ρ S with
  | ex _ _ _ => rw [hm] at p; exact p.elim
  | no => rw [hm] at p; exact p.elim
  | ok ds S1 =>
    rw [hm] at p
    intro T1 e1 s1 vs rs
    obtain ⟨q1, q2, q3⟩ := e1.pr D (.inr rfl)
    have nf2 : ¬ T1.fr D := fun z => nf1 (q3 z)
    have hDD : T1.H D = some (.dT []) := q2.trans upd_same
    have hss : SOk X.K (T1.strip D) S1 := sok_strip s1 nf2 q1 hDD
    have p1 := (p.mono ee).mono (ext_strip nf1 e1)
    simp only [R.bind_ok] at p1
    split at p1
    · rename_i kvs hk
      split at p1
      · rename_i h15'
        obtain ⟨kk, i1, i0, i2, i3⟩ := keysT_repL rs hk
        refine ⟨hDD, kk, i1, i0, by have := congrArg List.length i2; simp at this; omega, ?_⟩
        obtain ⟨j1, j2⟩ := mergeA_repT (acc := []) (us := []) rfl .nil i2 i3
        have q := mkD_ok (p := D) hss (.inr ⟨rfl, _, rfl, j1, rfl⟩) (j2.sub (sub_strip nf2)) p1 strip_eq
        have hH : upd (T1.strip D).H D (.dT (mergeT [] kk)) = upd T1.H D (.dT (mergeT [] kk)) := by
          funext a
          by_cases e : a = D
          · rw [e, upd_same, upd_same]
          · rw [upd_ne e, upd_ne e, strip_ne e]
        rw [hH] at q
        exact q
      · exact p1.elim
    · exact p1.elim
end
end LH

namespace LH
open PySem PySem.W L2 PySem.Spec PyProof.Rows
/-! ## dict comprehensions -/
section
variable {K : Frag} {T T' : Tr} {D : Addr} {S : Store}
theorem strip_setO {o : HO} : (T.setH D o).strip D = T.strip D := by
  unfold Tr.strip Tr.setH
  congr 1
  funext a
  by_cases e : a = D
  · rw [if_pos e, if_pos e]
  · rw [if_neg e, if_neg e]; exact upd_ne e
theorem ext_setO {o : HO} (hf : ¬ T.fr D) {T0 : Tr} (e : Ext T0 T) (hn : ¬ T0.pr D) : Ext T0 (T.setH D o) where
  fr := e.fr
  hp := fun a u h r => by
    have ne : a ≠ D := fun z => hf (e.fr _ (z ▸ h))
    rcases e.hp a u h r with z | ⟨d, o, z⟩
    · exact .inl ((upd_ne ne).trans z)
    · exact .inr ⟨d, o, (upd_ne ne).trans z⟩
  pr := fun a h => by
    have ne : a ≠ D := fun z => hn (z ▸ h)
    obtain ⟨p1, p2, p3⟩ := e.pr a h
    exact ⟨p1, (upd_ne ne).trans p2, p3⟩
  mu := e.mu
  N := e.N
theorem sok_setO {o : HO} (ho : PrOk o) (s : SOk K T S) (hf : ¬ T.fr D) (hp : T.pr D) : SOk K (T.setH D o) S where
  len := s.len
  ob := fun n q h => by
    have q' := s.ob n q h
    cases q with
    | lst xs =>
      obtain ⟨h1, h2, vs, e1, r⟩ := q'
      have ne : T.mu n ≠ D := fun e => h2 (by rw [e]; exact hp)
      exact ⟨h1, h2, vs, (upd_ne ne).trans e1, r.sub (sub_setD hf)⟩
    | dct t kvs =>
      obtain ⟨h1, h2, u, vs, e1, k, r⟩ := q'
      have ne : T.mu n ≠ D := fun e => h2 (by rw [e]; exact hp)
      exact ⟨h1, h2, u, vs, (upd_ne ne).trans e1, k, r.sub (sub_setD hf)⟩
    | lk t kvs =>
      obtain ⟨h1, od, u, vs, e1, k, r⟩ := q'
      have ne : T.mu n ≠ D := fun e => hf (e ▸ h1)
      exact ⟨h1, od, u, vs, (upd_ne ne).trans e1, k, r.sub (sub_setD hf)⟩
    | dead => trivial
  inj := s.inj
  frn := fun a h => by
    have ne : a ≠ D := fun z => hf (z ▸ h)
    show upd T.H D _ a ≠ none
    rw [upd_ne ne]; exact s.frn a h
  prn := fun a h => by
    show upd T.H D _ a ≠ none
    by_cases e : a = D
    · rw [e, upd_same]; simp
    · rw [upd_ne e]; exact s.prn a h
  prk := fun a u h e => by
    by_cases e' : a = D
    · have e : upd T.H D _ a = some u := e
      rw [e', upd_same] at e
      cases e; exact ho
    · exact s.prk a u h ((upd_ne e').symm.trans e)
  dis := s.dis
end
/-- what stands while a dict is made at D: T1 before it -/
structure MkDt (K : Frag) (T1 : Tr) (D : Addr) (T : Tr) (S : Store) (acc : List (KY × LH.D)) (us : List (Key × V)) : Prop where
  so : SOk K T S
  pr : T.pr D
  nf : ¬ T.fr D
  at_ : T.H D = some (.dK us)
  ks : acc.map (·.1) = us.map (fun p => KY.k p.1)
  rep : RepL K T (acc.map (·.2)) (us.map (·.2))
  ext : Ext T1 T
section
variable {X : Cx}
theorem dc_reads {own : List (Str × Nat)} {b : Bool} {g : G} {mi : Sem1 Src} {mc : Sem1 Bool} {mk mv : Sem1 LH.D} (hgs : ∀ i ∈ g.slots, i ∈ own.map (·.2)) {σ : L2.St} {H : Hp} {Q : VK}
    (h : tE X.K (fun ρ S => (mi ρ S).bind fun src S1 => (dcRun src (dcBody g (own.map (·.2)) mc mk mv ρ) [] src.items 0 S1).bind fun kvs S3 => mkD b false kvs S3) σ H Q) : tDc (tI X.K mi) (gG X.K g) (tB' X.K mc) (tE X.K mk) (tE X.K mv) (own.map (·.2)) σ H Q := by
  obtain ⟨T, ρ, S, rfl, so, re, p⟩ := h
  refine ⟨T, ρ, S, rfl, so, re, p.bind.imp fun src S1 T1 e1 s1 p1 J wk D hD => ?_⟩
  generalize hbd : dcBody g (own.map (·.2)) mc mk mv ρ = body at p1
  have nf1 : ¬ T1.fr D := fun z => s1.frn D z hD
  have np1 : ¬ T1.pr D := fun z => s1.prn D z hD
  refine ⟨fun i m H => ∃ T S' acc us, T.H = H ∧ MkDt X.K T1 D T S' acc us ∧ i ≤ src.items.length ∧ m = src.items.length - i ∧
    Post X.K (T.strip D) ((dcRun src body acc (src.items.drop i) i S').bind fun kvs S3 => mkD b false kvs S3) (kV' X.K Q), ⟨src.items.length - 0, T1.putP D (.dK []), S1, [], [], rfl, ⟨sok_putP s1 hD (fun _ z => nomatch z), .inr rfl, nf1, upd_same, rfl, .nil, ext_putP s1 hD⟩, Nat.zero_le _, rfl, ?_⟩, ?_⟩
  · rw [List.drop_zero]
    have ee : Ext T1 ((T1.putP D (.dK [])).strip D) := by
      rw [strip_put hD]
      exact ⟨fun _ z => z, fun _ _ _ r => .inl r, fun a z => ⟨⟨.inl z, fun q => np1 (q ▸ z)⟩, rfl, fun q => q⟩, fun _ _ => rfl, Nat.le_refl _⟩
    exact p1.mono ee
  · rintro i m H ⟨T2, S', acc, us, rfl, ⟨s2, hpD, hfD, hDD, hks, rA, e2⟩, hi, rfl, p2⟩
    have hss : SOk X.K (T2.strip D) S' := sok_strip s2 hfD hpD hDD
    by_cases hlt : i < src.items.length
    · right
      obtain ⟨x, hx⟩ : ∃ x, src.items[i]? = some x := ⟨_, List.getElem?_eq_getElem hlt⟩
      have hdrop : src.items.drop i = x :: src.items.drop (i + 1) := by
        rw [List.drop_eq_getElem_cons hlt]
        rw [List.getElem?_eq_getElem hlt] at hx
        cases hx; rfl
      rw [hdrop] at p2
      simp only [dcRun] at p2
      split at p2
      · rename_i y hy
        obtain ⟨go, yl⟩ := wk.go i x hx T2 S' y e2.sub s2 hy
        refine ⟨go, fun H' => ∃ T S' acc us, T.H = H' ∧ MkDt X.K T1 D T S' acc us ∧ i + 1 ≤ src.items.length ∧
          Post X.K (T.strip D) ((dcRun src body acc (src.items.drop (i + 1)) (i + 1) S').bind fun kvs S3 => mkD b false kvs S3) (kV' X.K Q), fun H' h => ⟨src.items.length - (i + 1), by omega, ?_⟩, fun v H' hv => ?_⟩
        · obtain ⟨T, S', acc, us, h1, h2, h8, h9⟩ := h
          exact ⟨T, S', acc, us, h1, h2, h8, rfl, h9⟩
        · obtain ⟨T3, rfl, e3, s3, rv⟩ := yl v H' hv
          have e13 := e2.trans e3
          subst hbd
          cases hg' : asgG g y (wipeE ρ (own.map (·.2))) with
          | none =>
            simp only [dcBody, hg'] at p2
            exact p2.elim
          | some ρ' =>
            simp only [dcBody, hg'] at p2
            refine ⟨T3, S', wipeE ρ (own.map (·.2)), y, ρ', rfl, s3, ((re.mono e1).mono e13).wipe _, rv, hg', fun σ2 re2 o2 => ⟨wipe_out o2 hgs, ?_⟩⟩
            cases hmc : mc ρ' S' with
            | ex _ _ _ => rw [hmc] at p2; exact p2.elim
            | no => rw [hmc] at p2; exact p2.elim
            | ok k S4 =>
              rw [hmc] at p2
              refine ⟨T3, ρ', S', rfl, s3, re2, ?_⟩
              rw [hmc]
              intro T4 e4 s4
              have e24 := e3.trans e4
              cases k with
              | false =>
                have p2 : Post X.K (T2.strip D) ((dcRun src _ acc (src.items.drop (i + 1)) (i + 1) S4).bind fun kvs S3 => mkD b false kvs S3) (kV' X.K Q) := p2
                dsimp only [kB]
                rw [if_neg (by decide)]
                obtain ⟨q1, q2, q3⟩ := e24.pr D hpD
                exact ⟨T4, S4, acc, us, rfl, ⟨s4, q1, fun z => hfD (q3 z), q2.trans hDD, hks, rA.mono e24, e13.trans e4⟩, hlt, p2.mono (ext_strip hfD e24)⟩
              | true =>
                dsimp only [kB]
                rw [if_pos rfl]
                cases hmk : mk ρ' S4 with
                | ex _ _ _ => simp only [R.bind_ok, if_true, hmk] at p2; exact p2.elim
                | no => simp only [R.bind_ok, if_true, hmk] at p2; exact p2.elim
                | ok a S5 =>
                  simp only [R.bind_ok, if_true, hmk] at p2
                  refine ⟨T4, ρ', S4, rfl, s4, re2.mono e4, ?_⟩
                  rw [hmk]
                  intro T5 e5 s5 v5 r5
                  cases hmv : mv ρ' S5 with
                  | ex _ _ _ => simp only [R.bind_ok, hmv] at p2; exact p2.elim
                  | no => simp only [R.bind_ok, hmv] at p2; exact p2.elim
                  | ok d S6 =>
                    simp only [R.bind_ok, hmv] at p2
                    refine ⟨T5, ρ', S5, rfl, s5, (re2.mono e4).mono e5, ?_⟩
                    rw [hmv]
                    intro T6 e6 s6 v6 r6
                    have e26 := (e24.trans e5).trans e6
                    obtain ⟨q1, q2, q3⟩ := e26.pr D hpD
                    have nf6 : ¬ T6.fr D := fun z => hfD (q3 z)
                    have h6 := q2.trans hDD
                    split at p2
                    · rename_i q hq
                      split at p2
                      · exact p2.elim
                      · rename_i hT
                        simp only [R.noex_ok, R.bind_ok] at p2
                        split at p2
                        · rename_i hL
                          rcases key_rep r5 hq with ⟨kx, rfl, rfl⟩ | ⟨ks, _, rfl, _, _⟩
                          · obtain ⟨i1, i2⟩ := putA_rep (c := KY.k) (k := kx) (fun _ _ z => KY.k.inj z) r6 hks (rA.mono e26)
                            refine ⟨us, kx, rfl, h6, ?_, T6.setH D (.dK (putK us kx v6)), S6, putA (.k kx) d acc, putK us kx v6, rfl, ⟨sok_setO (fun _ z => nomatch z) s6 nf6 q1, q1, nf6, upd_same, i1, i2.sub (sub_setD nf6), ext_setO nf6 (e13.trans ((e4.trans e5).trans e6)) np1⟩, hlt, ?_⟩
                            · have := congrArg List.length hks
                              simp only [List.length_map] at this
                              rw [← this]
                              exact Nat.lt_of_lt_of_le hL LMAX_le
                            · rw [strip_setO]
                              exact p2.mono (ext_strip hfD e26)
                          · exact absurd rfl hT
                        · exact p2.elim
                    · exact p2.elim
      · exact p2.elim
    · left
      have hie : i = src.items.length := by omega
      subst hie
      rw [List.drop_eq_nil_of_le (Nat.le_refl _)] at p2
      simp only [dcRun] at p2
      split at p2
      · rename_i S3 hf
        refine ⟨wk.stop T2 S' S3 e2.sub s2 hf, ?_⟩
        have hS := src_fin_eq hf
        subst hS
        have p3 : Post X.K (T2.strip D) (mkD b false acc S3) (kV' X.K Q) := by simpa only [R.bind_ok] using p2
        have q := mkD_ok (p := D) hss (.inl ⟨rfl, _, rfl, hks, rfl⟩) (rA.sub (sub_strip hfD)) p3 strip_eq
        have hH : upd (T2.strip D).H D (.dK us) = T2.H := by
          funext a
          by_cases e : a = D
          · rw [e, upd_same, hDD]
          · rw [upd_ne e, strip_ne e]
        rw [hH] at q
        exact q
      · exact p2.elim
theorem okE_dc {kx vx tg iter : Expr} {ifs : List Expr} {scope : Scope} {own : List (Str × Nat)} {pos : Pos} {b : Bool} {g : G} {mi : Sem1 Src} {mc : Sem1 Bool} {mk mv : Sem1 LH.D} (hc : X.calm = true) (hN : X.N.Nodup) (hi : OkI X tg iter mi) (ok : BlkOk X.N X.env.scope scope own)
    (hgs : ∀ i ∈ g.slots, i ∈ own.map (·.2))
    (hg : ∀ (s : Shared) (H : Hp) (C : Addr) (cl : List (Str × Addr)) (fp : List Addr), PG (X.blk s H scope (compEnvC scope cl C X.env) fp) tg (gG X.K g)) (ht : ∀ (s : Shared) (H : Hp) (C : Addr) (cl : List (Str × Addr)) (fp : List Addr), PTs (X.blk s H scope (compEnvC scope cl C X.env) fp) ifs (tB' X.K mc))
    (hk : ∀ (s : Shared) (H : Hp) (C : Addr) (cl : List (Str × Addr)) (fp : List Addr), PE (X.blk s H scope (compEnvC scope cl C X.env) fp) kx (tE X.K mk))
    (he : ∀ (s : Shared) (H : Hp) (C : Addr) (cl : List (Str × Addr)) (fp : List Addr), PE (X.blk s H scope (compEnvC scope cl C X.env) fp) vx (tE X.K mv)) (hs : ∀ x, foldedSetIterable iter X.env x = pure x) :
    OkE X (.DictComp kx vx [⟨tg, iter, ifs, 0⟩] scope pos) (fun ρ S => (mi ρ S).bind fun src S1 => (dcRun src (dcBody g (own.map (·.2)) mc mk mv ρ) [] src.items 0 S1).bind fun kvs S3 => mkD b false kvs S3) :=
  pe_weak (pe_dc hc hN hi ok hg ht hk he hs) fun σ H Q h => dc_reads hgs h
theorem ps_setDc {i : Nat} {y : Str} {py : Pos} {kx vx tg iter : Expr} {ifs : List Expr} {scope : Scope} {own : List (Str × Nat)} {pos spos : Pos} {wi : TI} {g : TG} {tt : TT} {tk tv : TE} (hc : X.calm = true) (hN : X.N.Nodup) (hy : X.N[i]? = some y) (hyl : X.env.scope.names.lookup y = some .local)
    (hsw : swapsWith (.DictComp kx vx [⟨tg, iter, ifs, 0⟩] scope pos) (some (.Name y py)) spos.line X.env = pure true) (hi : PI X tg iter wi) (ok : BlkOk X.N X.env.scope scope own)
    (hg : ∀ (s : Shared) (H : Hp) (C : Addr) (cl : List (Str × Addr)) (fp : List Addr), PG (X.blk s H scope (compEnvC scope cl C X.env) fp) tg g) (ht : ∀ (s : Shared) (H : Hp) (C : Addr) (cl : List (Str × Addr)) (fp : List Addr), PTs (X.blk s H scope (compEnvC scope cl C X.env) fp) ifs tt)
    (hk : ∀ (s : Shared) (H : Hp) (C : Addr) (cl : List (Str × Addr)) (fp : List Addr), PE (X.blk s H scope (compEnvC scope cl C X.env) fp) kx tk)
    (he : ∀ (s : Shared) (H : Hp) (C : Addr) (cl : List (Str × Addr)) (fp : List Addr), PE (X.blk s H scope (compEnvC scope cl C X.env) fp) vx tv) (hs : ∀ x, foldedSetIterable iter X.env x = pure x) :
    PS X (.Assign [.Name y py] (.DictComp kx vx [⟨tg, iter, ifs, 0⟩] scope pos) spos) (tAsg (tDc wi g tt tk tv (own.map (·.2))) (gName i)) := by
  refine ⟨fun pins s σ H D I h => ?_⟩
  rw [exec_Assign_Name_used _ _ _ _ hsw]
  refine wpAny_bind (wpAny_standAt (wpAny_bind ?_))
  show wpAny _ X.A (do let _ ← comprehension (.DictComp kx vx [⟨tg, iter, ifs, 0⟩] scope pos) scope X.env (firstIterPos [⟨tg, iter, ifs, 0⟩] pos) newDict false (eval iter X.env) (some (assign (.Name y py) X.env))) _ _ s
  have h : tDc wi g tt tk tv (own.map (·.2)) σ H (fun x H1 => gName i x σ H1 D.nx) := h
  refine wpAny_bind (thn (dc_core (Qf := fun _ s' => SP X pins D .next s') hc hN I hi ok hg ht hk he hs h fun L C s' m H' I' q hn f => ?_) fun _ s' hq => wpAny_pure (wpAny_pure hq))
  show wpAny _ _ (assign (.Name y py) X.env (.ref L)) _ _ _
  refine wpAny_assign_Name (store_ok2 (v := V.ref L) I' hN hy (.inl hyl) rfl (fun s2 I2 ⟨a, sb, ha⟩ => ?_) (.inr hyl))
  obtain ⟨f0, f1, f2, f3, f4, f5⟩ := f
  have haC : C ≠ a := by
    rcases ha with z | z
    · rw [z]; exact f1
    · exact fun e => f4 y a z e.symm
  refine ⟨m, hn.sameBut sb haC, fun h3 sb3 => ?_⟩
  exact ⟨_, H', I2.turned (t' := s2.toks) (fun b o hb e => (sb3.2 b hb).trans e) f0 f1 f3 f4 f5, q⟩
end
end LH

namespace LH
open PySem PySem.W L2 PySem.Spec PyProof.Rows
/-! ## statements -/
def PostS (K : Frag) (W : WX) (T : Tr) (r : RS) (D : Ends) : Prop :=
  match r with
  | .nx ρ S => ∀ T' σ', Ext T T' → SOk K T' S → REnv K T' ρ σ' → D.nx σ' T'.H
  | .bk ρ S => ∀ T' σ', Ext T T' → SOk K T' S → REnv K T' ρ σ' → D.bk σ' T'.H
  | .ct ρ S => ∀ T' σ', Ext T T' → SOk K T' S → REnv K T' ρ σ' → D.ct σ' T'.H
  | .rt d S => ∀ T' v, Ext T T' → SOk K T' S → Rep K T' d v → D.rt v T'.H
  | .ex k d ρ S => ∀ T' σ', Ext T T' → SOk K T' S → REnv K T' ρ σ' → XD K T' k d fun c dx => W c dx σ' T'.H
  | .no => False
abbrev SemS := Env → Store → RS
def sB (K : Frag) (W : WX) (m : SemS) : TS := fun D σ H => ∃ T ρ S, T.H = H ∧ SOk K T S ∧ REnv K T ρ σ ∧ PostS K W T (m ρ S) D
section
variable {K : Frag} {W : WX} {T T' : Tr} {D : Ends}
theorem PostS.mono {r : RS} (h : PostS K W T r D) (e : Ext T T') : PostS K W T' r D := by
  cases r with
  | nx ρ S => exact fun T2 σ e2 => h T2 σ (e.trans e2)
  | bk ρ S => exact fun T2 σ e2 => h T2 σ (e.trans e2)
  | ct ρ S => exact fun T2 σ e2 => h T2 σ (e.trans e2)
  | rt d S => exact fun T2 v e2 => h T2 v (e.trans e2)
  | ex k d ρ S => exact fun T2 σ e2 => h T2 σ (e.trans e2)
  | no => exact h
theorem PostS.toS {α : Type} {r : R α} {ρ : Env} {k : α → Store → RS} (h : PostS K W T (r.toS ρ k) D) : Post K T r fun a S' T' => PostS K W T' (k a S') D := by
  cases r with
  | ok a S => exact fun T2 e2 s => PostS.mono (r := k a S) h e2
  | ex _ _ _ => exact h
  | no => exact h
theorem PostS.toX {r : R LH.D} {ρ : Env} {σ : L2.St} {k : LH.D → Store → RS} (h : PostS K W T (r.toX ρ k) D) (re : REnv K T ρ σ) : PostX K (fun c d H' => W c d σ H') T r fun a S' T' => PostS K W T' (k a S') D := by
  cases r with
  | ok a S => exact fun T2 e2 s => PostS.mono (r := k a S) h e2
  | ex _ _ _ => exact fun T2 e2 s => h T2 σ e2 s (re.mono e2)
  | no => exact h
theorem PostS.nx {ρ : Env} {σ : L2.St} {S : Store} (h : PostS K W T (.nx ρ S) D) (s : SOk K T S) (r : REnv K T ρ σ) : D.nx σ T.H := h T σ (.refl T) s r
theorem PostX.imp {α : Type} {Z : XK} {r : R α} {k k' : α → Store → Tr → Prop} (h : PostX K Z T r k) (f : ∀ a S' T', Ext T T' → SOk K T' S' → k a S' T' → k' a S' T') : PostX K Z T r k' := by
  cases r with
  | ok a S => exact fun T2 e2 s => f a S T2 e2 s (h T2 e2 s)
  | ex _ _ _ => exact h
  | no => exact h
end
abbrev OkS (X : Cx) (W : WX) (st : Stmt) (m : SemS) : Prop := PS X st (sB X.K W m)
abbrev OkB (X : Cx) (W : WX) (st : List Stmt) (m : SemS) : Prop := PSs X st (sB X.K W m)
theorem ps_weak {X : Cx} {e : Stmt} {t t' : TS} (h : PS X e t) (f : ∀ D σ H, t' D σ H → t D σ H) : PS X e t' := ⟨fun pins s σ H D I q => h.run pins s σ H D I (f D σ H q)⟩
theorem pss_weak {X : Cx} {e : List Stmt} {t t' : TS} (h : PSs X e t) (f : ∀ D σ H, t' D σ H → t D σ H) : PSs X e t' := ⟨fun pins s σ H D I q => h.run pins s σ H D I (f D σ H q)⟩
section
variable {X : Cx} {W : WX} {st : Stmt} {rest : List Stmt} {m1 m2 : SemS} {e : Expr} {me : Sem1 D} {pos : Pos}
theorem okB_nil : OkB X W [] (fun ρ S => .nx ρ S) := pss_weak pss_nil fun D σ H ⟨T, ρ, S, h, s, r, p⟩ => by subst h; exact p.nx s r
theorem okB_cons (h1 : OkS X W st m1) (h2 : OkB X W rest m2) : OkB X W (st :: rest) (fun ρ S => match m1 ρ S with
    | .nx ρ' S' => m2 ρ' S'
    | x => x) := by
  refine pss_weak (pss_cons h1 h2) ?_
  rintro D σ H ⟨T, ρ, S, rfl, s, r, p⟩
  refine ⟨T, ρ, S, rfl, s, r, ?_⟩
  dsimp only at p
  cases hm : m1 ρ S with
  | nx ρ' S' =>
    rw [hm] at p
    exact fun T' σ' e' s' r' => ⟨T', ρ', S', rfl, s', r', p.mono e'⟩
  | bk ρ S => rw [hm] at p; exact p
  | ct ρ S => rw [hm] at p; exact p
  | rt d S => rw [hm] at p; exact p
  | ex _ _ _ _ => rw [hm] at p; exact p
  | no => rw [hm] at p; exact p
theorem okS_doc {x : Str} {j pos'} : OkS X W (.Expr (.Constant (.str x) j pos) pos') (fun ρ S => .nx ρ S) := ps_weak ps_doc fun D σ H ⟨T, ρ, S, h, s, r, p⟩ => by subst h; exact p.nx s r
theorem okS_pass : OkS X W (.Pass pos) (fun ρ S => .nx ρ S) := ps_weak ps_pass fun D σ H ⟨T, ρ, S, h, s, r, p⟩ => by subst h; exact p.nx s r
theorem okS_brk : OkS X W (.Break pos) (fun ρ S => .bk ρ S) := ps_weak ps_break fun D σ H ⟨T, ρ, S, h, s, r, p⟩ => by subst h; exact p T σ (.refl T) s r
theorem okS_cnt : OkS X W (.Continue pos) (fun ρ S => .ct ρ S) := ps_weak ps_continue fun D σ H ⟨T, ρ, S, h, s, r, p⟩ => by subst h; exact p T σ (.refl T) s r
theorem okS_retN : OkS X W (.Return none pos) (fun _ S => .rt .non S) := ps_weak ps_retN fun D σ H ⟨T, ρ, S, h, s, r, p⟩ => by
  subst h
  exact p T _ (.refl T) s (by unfold Rep; rfl)
theorem okS_ret (h : OkE X e me) : OkS X W (.Return (some e) pos) (fun ρ S => (me ρ S).toS ρ fun d S1 => .rt d S1) := ps_weak (ps_ret h) fun D σ H ⟨T, ρ, S, h, s, r, p⟩ => by
  subst h
  exact ⟨T, ρ, S, rfl, s, r, p.toS.imp fun d S1 T1 e1 s1 p1 v rv => p1 T1 v (.refl _) s1 rv⟩
theorem okS_expr (h : OkE X e me) (hs : swapsWith e none pos.line X.env = pure false) : OkS X W (.Expr e pos) (fun ρ S => (me ρ S).toS ρ fun _ S1 => .nx ρ S1) := ps_weak (ps_expr h hs) fun D σ H ⟨T, ρ, S, h, s, r, p⟩ => by
  subst h
  exact ⟨T, ρ, S, rfl, s, r, p.toS.imp fun d S1 T1 e1 s1 p1 v rv => p1.nx s1 (r.mono e1)⟩
theorem okS_if {c : Expr} {a b : List Stmt} {mt : Sem1 Bool} (hc : PT X c (tB' X.K mt)) (ha : OkB X W a m1) (hb : OkB X W b m2) : OkS X W (.If c a b pos) (fun ρ S => (mt ρ S).toS ρ fun k S1 => if k then m1 ρ S1 else m2 ρ S1) := ps_weak (ps_if hc ha hb) fun D σ H ⟨T, ρ, S, h, s, r, p⟩ => by
  subst h
  refine ⟨T, ρ, S, rfl, s, r, p.toS.imp fun k S1 T1 e1 s1 p1 => ?_⟩
  dsimp only [kB]
  cases k with
  | true => rw [if_pos rfl]; exact ⟨T1, ρ, S1, rfl, s1, r.mono e1, p1⟩
  | false => rw [if_neg (by decide)]; exact ⟨T1, ρ, S1, rfl, s1, r.mono e1, p1⟩
theorem okS_asg {tg : Expr} {g : G} (he : OkE X e me) (hg : PG X tg (gG X.K g)) (hs : swapsWithSole [tg] e pos.line X.env = pure false) (hw : swappedStores [tg] e X.env = pure none) (h1 : (assignEach [tg] X.env).map (·.2) = [assign tg X.env]) : OkS X W (.Assign [tg] e pos) (fun ρ S => (me ρ S).toS ρ fun d S1 => match asgG g d ρ with
    | some ρ' => .nx ρ' S1
    | none => .no) := ps_weak (ps_asg he hg hs hw h1) fun D σ H ⟨T, ρ, S, h, s, r, p⟩ => by
  subst h
  refine ⟨T, ρ, S, rfl, s, r, p.toS.imp fun d S1 T1 e1 s1 p1 v rv => ?_⟩
  cases hg' : asgG g d ρ with
  | none => rw [hg'] at p1; exact p1.elim
  | some ρ' =>
    rw [hg'] at p1
    exact ⟨T1, S1, ρ, d, ρ', rfl, s1, r.mono e1, rv, hg', fun σ' r' _ => p1.nx s1 r'⟩
/-- name = a list display by a comprehension, on one line -/
theorem okS_set {i : Nat} {x : Str} {pos' : Pos} (hN : X.N.Nodup) (hi : X.N[i]? = some x) (hx : Loc X.env.scope x) (he : OkE X e me) (hs : swapsWith e (some (.Name x pos')) pos.line X.env = pure false) (hf : X.fn x = true ∨ X.env.scope.names.lookup x = some .local) : OkS X W (.Assign [.Name x pos'] e pos) (fun ρ S => (me ρ S).toS ρ fun d S1 => match asgG (.nm i) d ρ with
    | some ρ' => .nx ρ' S1
    | none => .no) := ps_weak (ps_set hN hi hx he hs hf) fun D σ H ⟨T, ρ, S, h, s, r, p⟩ => by
  subst h
  refine ⟨T, ρ, S, rfl, s, r, p.toS.imp fun d S1 T1 e1 s1 p1 v rv => ?_⟩
  exact p1.nx s1 ((r.mono e1).set i rv)
theorem ip_augI {op : BOp} (h : op = .add ∨ op = .sub) : PIp X (bop op) (fun x y H Q => ∃ i j z, x = .int i ∧ y = .int j ∧ augI op i (.int j) = some z ∧ Q (.int z) H) := by
  rcases h with rfl | rfl
  · intro pins s σ H x y v u Q I r1 r2 ⟨i, j, z, e1, e2, e3, q⟩
    cases e3
    exact ip_add pins s σ H x y v u Q I r1 r2 ⟨i, j, e1, e2, q⟩
  · intro pins s σ H x y v u Q I r1 r2 ⟨i, j, z, e1, e2, e3, q⟩
    cases e3
    exact ip_sub pins s σ H x y v u Q I r1 r2 ⟨i, j, e1, e2, q⟩
theorem okS_aug {i : Nat} {x : Str} {pos' : Pos} {op : BOp} (hop : op = .add ∨ op = .sub) (hN : X.N.Nodup) (hi : X.N[i]? = some x) (hx : Loc X.env.scope x) (he : OkE X e me) (hf : X.fn x = true ∨ X.env.scope.names.lookup x = some .local) : OkS X W (.AugAssign (.Name x pos') (bop op) e pos) (fun ρ S => match ρ.getD i none with
    | some (.int a) => (me ρ S).toS ρ fun d S1 => match augI op a d with
      | some z => .nx (ρ.set i (some (.int z))) S1
      | none => .no
    | _ => .no) := ps_weak (ps_aug hN hi hx he (ip_augI hop) hf) fun D σ H ⟨T, ρ, S, h, s, r, p⟩ => by
  subst h
  dsimp only at p
  split at p
  · rename_i a ha
    have hget : ρ[i]? = some (some (.int a)) := by
      rw [List.getD_eq_getElem?_getD] at ha
      cases hq : ρ[i]? with
      | none => rw [hq] at ha; cases ha
      | some o => rw [hq] at ha; exact congrArg some ha
    obtain ⟨v, hv, rv⟩ := r.2 i _ hget
    have := rv.int
    subst this
    refine ⟨_, hv, T, ρ, S, rfl, s, r, p.toS.imp fun d S1 T1 e1 s1 p1 v rv => ?_⟩
    cases hz : augI op a d with
    | none => rw [hz] at p1; exact p1.elim
    | some z =>
      rw [hz] at p1
      have : ∃ b, d = .int b := by
        unfold augI at hz
        split at hz
        · exact ⟨_, rfl⟩
        · exact ⟨_, rfl⟩
        · cases hz
      obtain ⟨b, rfl⟩ := this
      have := rv.int
      subst this
      exact ⟨a, b, z, rfl, rfl, hz, p1.nx s1 ((r.mono e1).set i (by unfold Rep; rfl))⟩
  · exact p.elim
theorem okS_while {c : Expr} {body : List Stmt} {mt : Sem1 Bool} {mb : SemS} {fuel : Nat} (hp : PassesOwn (model X.prog X.w) X.A X.env X.xe) (hc : PT X c (tB' X.K mt)) (hb : OkB X W body mb) : OkS X W (.While c body [] pos) (fun ρ S => whileRun mt mb fuel ρ S) := ps_weak (ps_while hp hc hb) fun D σ H ⟨T, ρ, S, h, s, r, p⟩ => by
  subst h
  refine ⟨fun n σ H => ∃ T ρ S, T.H = H ∧ SOk X.K T S ∧ REnv X.K T ρ σ ∧ PostS X.K W T (whileRun mt mb n ρ S) D, ⟨fuel, T, ρ, S, rfl, s, r, p⟩, ?_⟩
  rintro n σ H ⟨T, ρ, S, rfl, s, r, p⟩
  cases n with
  | zero => exact p.elim
  | succ n =>
    simp only [whileRun] at p
    refine ⟨T, ρ, S, rfl, s, r, p.toS.imp fun k S1 T1 e1 s1 p1 => ?_⟩
    dsimp only [kB]
    cases k with
    | false => rw [if_neg (by decide)]; exact p1.nx s1 (r.mono e1)
    | true =>
      rw [if_pos rfl]
      rw [if_pos rfl] at p1
      refine ⟨fun σ H => ∃ T ρ S, T.H = H ∧ SOk X.K T S ∧ REnv X.K T ρ σ ∧ PostS X.K W T (whileRun mt mb n ρ S) D, fun σ' H' h => ⟨n, Nat.lt_succ_self n, h⟩, T1, ρ, S1, rfl, s1, r.mono e1, ?_⟩
      cases hm : mb ρ S1 with
      | nx ρ2 S2 => rw [hm] at p1; exact fun T' σ' e' s' r' => ⟨T', ρ2, S2, rfl, s', r', p1.mono e'⟩
      | ct ρ2 S2 => rw [hm] at p1; exact fun T' σ' e' s' r' => ⟨T', ρ2, S2, rfl, s', r', p1.mono e'⟩
      | bk ρ2 S2 => rw [hm] at p1; exact p1
      | rt d S2 => rw [hm] at p1; exact p1
      | ex _ _ _ _ => rw [hm] at p1; exact p1
      | no => rw [hm] at p1; exact p1
theorem okS_for {tg iter : Expr} {body : List Stmt} {mi : Sem1 Src} {g : G} {mb : SemS} (hp : PassesOwn (model X.prog X.w) X.A X.env X.xe) (hc : X.calm = true) (hi : OkI X tg iter mi) (hg : PG X tg (gG X.K g)) (hb : OkB X W body mb) (hs : ∀ x, foldedSetIterable iter X.env x = pure x) : OkS X W (.For tg iter body [] pos) (fun ρ S => (mi ρ S).toS ρ fun src S1 => forRun src g mb src.items 0 ρ S1) := ps_weak (ps_for hp hc hi hg hb hs) fun D σ H ⟨T, ρ, S, h, s, r, p⟩ => by
  subst h
  refine ⟨T, ρ, S, rfl, s, r, p.toS.imp fun src S1 T1 e1 s1 p1 J wk => ?_⟩
  refine ⟨fun i m σ H => ∃ T ρ S, T.H = H ∧ SOk X.K T S ∧ REnv X.K T ρ σ ∧ Ext T1 T ∧ i ≤ src.items.length ∧ m = src.items.length - i ∧ PostS X.K W T (forRun src g mb (src.items.drop i) i ρ S) D, ⟨_, T1, ρ, S1, rfl, s1, r.mono e1, .refl _, Nat.zero_le _, rfl, p1⟩, ?_⟩
  rintro i m σ H ⟨T2, ρ2, S2, rfl, s2, r2, e2, hi, rfl, p2⟩
  by_cases hlt : i < src.items.length
  · right
    obtain ⟨x, hx⟩ : ∃ x, src.items[i]? = some x := ⟨_, List.getElem?_eq_getElem hlt⟩
    have hdrop : src.items.drop i = x :: src.items.drop (i + 1) := by
      rw [List.drop_eq_getElem_cons hlt]
      rw [List.getElem?_eq_getElem hlt] at hx
      cases hx; rfl
    rw [hdrop] at p2
    simp only [forRun] at p2
    split at p2
    · rename_i y hy
      obtain ⟨go, yl⟩ := wk.go i x hx T2 S2 y e2.sub s2 hy
      refine ⟨go, fun σ H => ∃ T ρ S, T.H = H ∧ SOk X.K T S ∧ REnv X.K T ρ σ ∧ Ext T1 T ∧ PostS X.K W T (forRun src g mb (src.items.drop (i + 1)) (i + 1) ρ S) D, fun σ' H' h => ⟨src.items.length - (i + 1), by omega, ?_⟩, fun v H' hv => ?_⟩
      · obtain ⟨T, ρ, S, h1, h2, h3, h4, h5⟩ := h
        exact ⟨T, ρ, S, h1, h2, h3, h4, hlt, rfl, h5⟩
      · obtain ⟨T3, rfl, e3, s3, rv⟩ := yl v H' hv
        split at p2
        · rename_i ρ1 hg'
          refine ⟨T3, S2, ρ2, y, ρ1, rfl, s3, r2.mono e3, rv, hg', fun σ2 re2 _ => ⟨T3, ρ1, S2, rfl, s3, re2, ?_⟩⟩
          cases hm : mb ρ1 S2 with
          | nx ρ4 S4 => rw [hm] at p2; exact fun T' σ' e' s' r' => ⟨T', ρ4, S4, rfl, s', r', (e2.trans e3).trans e', p2.mono (e3.trans e')⟩
          | ct ρ4 S4 => rw [hm] at p2; exact fun T' σ' e' s' r' => ⟨T', ρ4, S4, rfl, s', r', (e2.trans e3).trans e', p2.mono (e3.trans e')⟩
          | bk ρ4 S4 => rw [hm] at p2; exact PostS.mono (r := .nx ρ4 S4) p2 e3
          | rt d S4 => rw [hm] at p2; exact PostS.mono (r := .rt d S4) p2 e3
          | ex k4 d4 ρ4 S4 => rw [hm] at p2; exact PostS.mono (r := .ex k4 d4 ρ4 S4) p2 e3
          | no => rw [hm] at p2; exact p2
        · exact p2.elim
    · exact p2.elim
  · left
    have hie : i = src.items.length := by omega
    subst hie
    rw [List.drop_eq_nil_of_le (Nat.le_refl _)] at p2
    simp only [forRun] at p2
    split at p2
    · rename_i S3 hf
      refine ⟨wk.stop T2 S2 S3 e2.sub s2 hf, ?_⟩
      have hS : S3 = S2 := src_fin_eq hf
      subst hS
      exact p2.nx s2 r2
    · exact p2.elim
/-- statements that an exception may leave -/
theorem okS_retX {mx : Sem1 D} (h : OkX X W e mx) : OkS X W (.Return (some e) pos) (fun ρ S => (mx ρ S).toX ρ fun d S1 => .rt d S1) := ps_weak (ps_ret h) fun D σ H ⟨T, ρ, S, h, s, r, p⟩ => by
  subst h
  exact ⟨T, ρ, S, rfl, s, r, (p.toX r).imp fun d S1 T1 e1 s1 p1 v rv => p1 T1 v (.refl _) s1 rv⟩
theorem okS_exprX {mx : Sem1 D} (h : OkX X W e mx) (hs : swapsWith e none pos.line X.env = pure false) : OkS X W (.Expr e pos) (fun ρ S => (mx ρ S).toX ρ fun _ S1 => .nx ρ S1) := ps_weak (ps_expr h hs) fun D σ H ⟨T, ρ, S, h, s, r, p⟩ => by
  subst h
  exact ⟨T, ρ, S, rfl, s, r, (p.toX r).imp fun d S1 T1 e1 s1 p1 v rv => p1.nx s1 (r.mono e1)⟩
theorem okS_asgX {tg : Expr} {g : G} {mx : Sem1 D} (he : OkX X W e mx) (hg : PG X tg (gG X.K g)) (hs : swapsWithSole [tg] e pos.line X.env = pure false) (hw : swappedStores [tg] e X.env = pure none) (h1 : (assignEach [tg] X.env).map (·.2) = [assign tg X.env]) : OkS X W (.Assign [tg] e pos) (fun ρ S => (mx ρ S).toX ρ fun d S1 => match asgG g d ρ with
    | some ρ' => .nx ρ' S1
    | none => .no) := ps_weak (ps_asg he hg hs hw h1) fun D σ H ⟨T, ρ, S, h, s, r, p⟩ => by
  subst h
  refine ⟨T, ρ, S, rfl, s, r, (p.toX r).imp fun d S1 T1 e1 s1 p1 v rv => ?_⟩
  cases hg' : asgG g d ρ with
  | none => rw [hg'] at p1; exact p1.elim
  | some ρ' =>
    rw [hg'] at p1
    exact ⟨T1, S1, ρ, d, ρ', rfl, s1, r.mono e1, rv, hg', fun σ' r' _ => p1.nx s1 r'⟩
theorem okS_setX {i : Nat} {x : Str} {pos' : Pos} {mx : Sem1 D} (hN : X.N.Nodup) (hi : X.N[i]? = some x) (hx : Loc X.env.scope x) (he : OkX X W e mx) (hs : swapsWith e (some (.Name x pos')) pos.line X.env = pure false) (hf : X.fn x = true ∨ X.env.scope.names.lookup x = some .local) : OkS X W (.Assign [.Name x pos'] e pos) (fun ρ S => (mx ρ S).toX ρ fun d S1 => match asgG (.nm i) d ρ with
    | some ρ' => .nx ρ' S1
    | none => .no) := ps_weak (ps_set hN hi hx he hs hf) fun D σ H ⟨T, ρ, S, h, s, r, p⟩ => by
  subst h
  refine ⟨T, ρ, S, rfl, s, r, (p.toX r).imp fun d S1 T1 e1 s1 p1 v rv => ?_⟩
  exact p1.nx s1 ((r.mono e1).set i rv)
/-- raise C(e) -/
theorem okS_raise {D0 fI C : Addr} {k : Nat} {x : Str} {q : Pos} (hc : X.calm = true) (tk : L2.Takes X W) (XB : XBase X.prog X.K D0 fI) (XC : XCls X.K D0 fI (xName k) C) (xk : XKn X.K k C) (hs : X.mg "super" = none) (hr : Room 2 X.A) (hg : Gl X x) (hm : X.mg x = some (.ref C)) (he : OkE X e me)
    (hdb : (x == ("__debug__" : Str)) = false) (h1 : starEach [e] X.env = (false, eval e X.env) :: starEach [] X.env) {pos2 : Pos} :
    OkS X W (.Raise (some (.Call (.Name x q) [e] [] pos)) none pos2) (fun ρ S => (me ρ S).toS ρ fun d S1 => .ex k d ρ S1) := ps_weak (L2.ps_raise hc tk (pmk_x XB XC hs hr hg hm he hdb h1)) fun D σ H ⟨T, ρ, S, h, s, r, p⟩ => by
  subst h
  refine ⟨T, ρ, S, rfl, s, r, p.toS.imp fun d S1 T1 e1 s1 p1 v rv dx hdx => ?_⟩
  have x2 := ext_putF (o := .xd [(("value" : Str), v)]) s1 hdx
  have s2 := sok_putF (o := .xd [(("value" : Str), v)]) s1 hdx
  exact p1 (T1.putF dx (.xd [(("value" : Str), v)])) σ x2 s2 ((r.mono e1).mono x2) C dx [(("value" : Str), v)] v xk (.inr rfl) upd_same (by simp [List.lookup]) (rv.mono x2)
theorem okS_never {e : Option Expr} {c : Option Expr} : OkS X W (.Raise e c pos) (fun _ _ => .no) := ps_weak ps_never fun D σ H ⟨T, ρ, S, _, _, _, p⟩ => (show False from p).elim
/-- return a if t else b, of two calls -/
theorem okS_reti {t a b : Expr} {pos2 : Pos} {mt : Sem1 Bool} {ma mb : Sem1 D} (ht : PT X t (tB' X.K mt)) (ha : OkX X W a ma) (hb : OkX X W b mb) : OkS X W (.Return (some (.IfExp t a b pos)) pos2) (fun ρ S => (mt ρ S).toS ρ fun k S1 => if k then (ma ρ S1).toX ρ fun d S1 => .rt d S1 else (mb ρ S1).toX ρ fun d S1 => .rt d S1) := ps_weak (ps_ret (pe_ifExp ht ha hb)) fun D σ H ⟨T, ρ, S, h, s, r, p⟩ => by
  subst h
  refine .mk s r (p.toS.imp fun k S1 T1 e1 s1 p1 => ?_)
  cases k with
  | true =>
    rw [if_pos rfl] at p1
    refine iteT ⟨T1, ρ, S1, rfl, s1, r.mono e1, (p1.toX (r.mono e1)).imp fun d S2 T2 e2 s2 p2 v rv => p2 T2 v (.refl _) s2 rv⟩
  | false =>
    rw [if_neg Bool.false_ne_true] at p1
    refine iteF ⟨T1, ρ, S1, rfl, s1, r.mono e1, (p1.toX (r.mono e1)).imp fun d S2 T2 e2 s2 p2 v rv => p2 T2 v (.refl _) s2 rv⟩
end
end LH

namespace LH
open PySem PySem.W L2 PySem.Spec PyProof.Rows
section
variable {X : Cx} {a b c : Expr} {ma mb mc : Sem1 D} {pos : Pos}
theorem okT_chain {o1 o2 : COp} (hu : X.A.units + 65 < cLine) (ha : OkE X a ma) (hb : OkE X b mb) (hc : OkE X c mc) (hm : lastMarks [cop o1, cop o2] [b, c] = false) : OkT X (.Compare a [cop o1, cop o2] [b, c] pos) (fun ρ S => (ma ρ S).bind fun x S1 => (mb ρ S1).bind fun y S2 => match cmpD S2 o1 x y with
    | some true => (mc ρ S2).bind fun z S3 => .opt ((cmpD S3 o2 y z).map .bl) S3
    | some false => .ok (.bl false) S2
    | none => .no) := by
  obtain ⟨r1, hr1, ok1⟩ := ok_cmp (X := X) hu o1
  obtain ⟨r2, hr2, ok2⟩ := ok_cmp (X := X) hu o2
  refine pt_weak (pt_chain hr1 hr2 ha hb hc hm) ?_
  rintro σ H Q ⟨T, ρ, S, rfl, s, re, p⟩
  have p0 : Post X.K T ((ma ρ S).bind fun x S1 => ((mb ρ S1).bind fun y S2 => match cmpD S2 o1 x y with
    | some true => (mc ρ S2).bind fun z S3 => .opt ((cmpD S3 o2 y z).map .bl) S3
    | some false => .ok (.bl false) S2
    | none => .no).bind fun x S1 => .opt (truthy S1 x) S1) (kB Q) := by
    rw [← R.bind_assoc]; exact p
  refine .mk s re (p0.bind.imp fun d S1 T1 e1 s1 p1 v hv => ?_)
  rw [R.bind_assoc] at p1
  refine .mk s1 (re.mono e1) (p1.bind.imp fun d2 S2 T2 e2 s2 p2 v2 hv2 => ?_)
  split at p2
  · rename_i e
    refine ok1 T2 S2 v v2 d d2 true _ s2 (hv.mono e2) hv2 e ⟨true, rfl, ?_⟩
    rw [if_pos rfl]
    rw [R.bind_assoc] at p2
    refine .mk s2 ((re.mono e1).mono e2) (p2.bind.imp fun d3 S3 T3 e3 s3 p3 v3 hv3 => ?_)
    cases h4 : cmpD S3 o2 d2 d3 with
    | none => rw [h4] at p3; exact p3.elim
    | some k =>
      rw [h4] at p3
      exact ok2 T3 S3 v2 v3 d2 d3 k _ s3 (hv2.mono e3) hv3 h4 ⟨k, rfl, p3.now s3⟩
  · rename_i e
    refine ok1 T2 S2 v v2 d d2 false _ s2 (hv.mono e2) hv2 e ⟨false, rfl, ?_⟩
    rw [if_neg Bool.false_ne_true]
    exact ⟨false, rfl, p2.now s2⟩
  · exact p2.elim
end
/-! ## lists without stars -/
def notStar : Expr → Bool
  | .Starred _ _ => false
  | _ => true
theorem star_cons {x : Expr} (h : notStar x = true) (xs : List Expr) (env : PySem.Env) : starEach (x :: xs) env = (false, eval x env) :: starEach xs env := by
  cases x <;> first | rfl | cases h
theorem asg_cons {x : Expr} (h : notStar x = true) (xs : List Expr) (env : PySem.Env) : assignEach (x :: xs) env = (false, assign x env) :: assignEach xs env := by
  cases x <;> first | rfl | cases h
theorem star_any : ∀ {xs : List Expr} {pos : Pos} {env : PySem.Env}, xs.all notStar = true → (backTo pos (starEach xs env)).any (·.1) = false
  | [], _, _, _ => rfl
  | x :: xs, pos, env, h => by
    rw [List.all_cons, Bool.and_eq_true] at h
    rw [star_cons h.1]
    have := star_any (pos := pos) (env := env) h.2
    simpa [backTo] using this
theorem asg_len : ∀ {xs : List Expr} {env : PySem.Env}, xs.all notStar = true → (assignEach xs env).length = xs.length
  | [], _, _ => rfl
  | x :: xs, env, h => by
    rw [List.all_cons, Bool.and_eq_true] at h
    rw [asg_cons h.1, List.length_cons, asg_len h.2, List.length_cons]
theorem asg_find : ∀ {xs : List Expr} {env : PySem.Env}, xs.all notStar = true → (assignEach xs env).findIdx? (·.1) = none
  | [], _, _ => rfl
  | x :: xs, env, h => by
    rw [List.all_cons, Bool.and_eq_true] at h
    rw [asg_cons h.1, List.findIdx?_cons, asg_find h.2]
    rfl
theorem kw_all : ∀ {kws : List Keyword} {pos : Pos} {env : PySem.Env}, kws.all (fun k => k.arg.isSome) = true → (backToKw pos (keywordEach kws env)).all (·.1.isSome) = true ∧ (backToKw pos (keywordEach kws env)).any (·.1.isNone) = false ∧ (backToKw pos (keywordEach kws env)).filterMap (·.1) = kws.filterMap (·.arg)
  | [], _, _, _ => ⟨rfl, rfl, rfl⟩
  | ⟨nm, v, p⟩ :: kws, pos, env, h => by
    rw [List.all_cons, Bool.and_eq_true] at h
    obtain ⟨h1, h2, h3⟩ := kw_all (pos := pos) (env := env) h.2
    cases nm with
    | none => cases h.1
    | some x =>
      have e : backToKw pos (keywordEach (⟨some x, v, p⟩ :: kws) env) = (some x, do let v ← eval v env; standAt pos; pure v) :: backToKw pos (keywordEach kws env) := rfl
      rw [e]
      refine ⟨by rw [List.all_cons, h1]; rfl, by rw [List.any_cons, h2]; rfl, ?_⟩
      rw [List.filterMap_cons, h3, List.filterMap_cons]
/-! ## built-in functions, by their names -/
def Bi.nm : Bi → Str
  | .len => "len" | .abs => "abs" | .max => "max" | .min => "min" | .int => "int" | .sum => "sum" | .sorted => "sorted" | .repr => "repr"
  | .list => "list" | .tuple => "tuple" | .str => "str" | .all => "all" | .any => "any" | .dict => "dict" | .bool => "bool"
def Bi.val : Bi → Value
  | .len => .builtin "len" | .abs => .builtin "abs" | .max => .builtin "max" | .min => .builtin "min" | .int => .type "int" | .sum => .builtin "sum" | .sorted => .builtin "sorted" | .repr => .builtin "repr"
  | .list => .type "list" | .tuple => .type "tuple" | .str => .type "str" | .all => .builtin "all" | .any => .builtin "any" | .dict => .type "dict" | .bool => .type "bool"
theorem Bi.boot (b : Bi) : bootBuiltins b.nm = some b.val := by cases b <;> decide +kernel
theorem Bi.notName (b : Bi) : b.nm ≠ "__name__" := by cases b <;> decide +kernel
theorem Bi.notDebug (b : Bi) : (b.nm == ("__debug__" : Str)) = false := by cases b <;> decide +kernel
def Ty.nm (t : Ty) : Str := match t with
  | .int => "int" | .bool => "bool" | .str => "str" | .list => "list" | .tuple => "tuple" | .dict => "dict"
theorem Ty.boot (t : Ty) : bootBuiltins t.nm = some (.type t.name) := by cases t <;> decide +kernel
theorem Ty.notName (t : Ty) : t.nm ≠ "__name__" := by cases t <;> decide +kernel
theorem Ty.notDebug (t : Ty) : (t.nm == ("__debug__" : Str)) = false := by cases t <;> decide +kernel
section
variable {X : Cx} {W : WX} {e : Expr} {es : List Expr} {ml : Sem1 (List D)} {pos q : Pos}
theorem cb_of (hc : X.calm = true) (hg : X.A.guards = some []) (hu : X.A.units + 65 < cLine) (hs : ∃ o, X.base.get? sysModules = some o) (m : Bool) (b : Bi) : CbOk X m b b.val := by
  cases b with
  | len => exact cb_len m
  | abs => exact cb_abs m
  | max => exact cb_max hc m
  | min => exact cb_min hc m
  | int => exact cb_int m
  | sum => exact cb_sum hc m
  | sorted => exact cb_sorted hc hu m
  | repr => exact cb_repr hg hu hs m
  | list => exact cb_list hc m
  | tuple => exact cb_tuple m
  | str => exact cb_str m
  | all => exact cb_all hc m
  | any => exact cb_any hc m
  | dict => exact cb_dict hc m
  | bool => exact cb_bool m
theorem okE_bi {m : Bool} {b : Bi} (h : CbOk X m b b.val) (hg : Gl X b.nm) (hm : X.mg b.nm = none) (ha : OkL X (e :: es) ml) (hst : (e :: es).all notStar = true) : OkE X (.Call (.Name b.nm q) (e :: es) [] pos) (fun ρ S => (ml ρ S).bind fun xs S1 => biD m b xs S1) := by
  obtain ⟨r, hr, ok⟩ := h
  rw [List.all_cons, Bool.and_eq_true] at hst
  have read : ∀ (σ : L2.St) (H : Hp) (Q : VK), tE X.K (fun ρ S => (ml ρ S).bind fun xs S1 => biD m b xs S1) σ H Q → tCB r (tL X.K ml) σ H Q := by
    rintro σ H Q ⟨T, ρ, S, rfl, s, re, p⟩
    exact .mk s re (p.bind.imp fun ds S1 T1 e1 s1 p1 vs hvs => ok T1 S1 ds vs Q s1 hvs p1)
  have hst1 := star_cons hst.1 es X.env
  have hst2 := star_any (pos := pos) (env := X.env) hst.2
  cases hb : b.val with
  | builtin id =>
    have hbt := b.boot
    rw [hb] at hr hbt
    exact pe_weak (pe_callB hr hg hm hbt ha b.notName b.notDebug hst1 hst2) read
  | type T =>
    have hbt := b.boot
    rw [hb] at hr hbt
    exact pe_weak (pe_callTy hr hg hm hbt ha b.notName b.notDebug hst1 hst2) read
  | _ => cases b <;> cases hb
theorem pe_tyName {t : Ty} (hg : Gl X t.nm) (hm : X.mg t.nm = none) : PE X (.Name t.nm q) (tC (.ty t.name)) := pe_bltn hg hm t.boot rfl t.notName t.notDebug
/-- name = a comprehension on one line -/
theorem okS_setLc {i : Nat} {y : Str} {py : Pos} {elt tg iter : Expr} {ifs : List Expr} {scope : Scope} {own : List (Str × Nat)} {spos : Pos} {b : Bool} {g : G} {mi : Sem1 Src} {mc : Sem1 Bool} {me : Sem1 D} (hc : X.calm = true) (hN : X.N.Nodup) (hy : X.N[i]? = some y) (hyl : X.env.scope.names.lookup y = some .local)
    (hsw : swapsWith (.ListComp elt [⟨tg, iter, ifs, 0⟩] scope pos) (some (.Name y py)) spos.line X.env = pure true) (hi : OkI X tg iter mi) (ok : BlkOk X.N X.env.scope scope own)
    (hgs : ∀ i ∈ g.slots, i ∈ own.map (·.2))
    (hg : ∀ (s : Shared) (H : Hp) (C : Addr) (cl : List (Str × Addr)) (fp : List Addr), PG (X.blk s H scope (compEnvC scope cl C X.env) fp) tg (gG X.K g)) (ht : ∀ (s : Shared) (H : Hp) (C : Addr) (cl : List (Str × Addr)) (fp : List Addr), PTs (X.blk s H scope (compEnvC scope cl C X.env) fp) ifs (tB' X.K mc))
    (he : ∀ (s : Shared) (H : Hp) (C : Addr) (cl : List (Str × Addr)) (fp : List Addr), PE (X.blk s H scope (compEnvC scope cl C X.env) fp) elt (tE X.K me)) (hs : ∀ x, foldedSetIterable iter X.env x = pure x) :
    OkS X W (.Assign [.Name y py] (.ListComp elt [⟨tg, iter, ifs, 0⟩] scope pos) spos) (fun ρ S => ((mi ρ S).bind fun src S1 => (lcRun src (lcBody g (own.map (·.2)) mc me ρ) src.items 0 S1).bind fun xs S3 => mkL b xs S3).toS ρ fun d S1 => match asgG (.nm i) d ρ with
      | some ρ' => .nx ρ' S1
      | none => .no) := ps_weak (ps_setLc hc hN hy hyl hsw hi ok hg ht he hs) fun D σ H ⟨T, ρ, S, h, s, r, p⟩ => by
  subst h
  refine lc_reads (b := b) hgs ⟨T, ρ, S, rfl, s, r, p.toS.imp fun d S1 T1 e1 s1 p1 v rv => ?_⟩
  exact p1.nx s1 ((r.mono e1).set i rv)
theorem okS_setLc2 {i : Nat} {y : Str} {py : Pos} {elt tg iter tg1 iter1 : Expr} {ifs ifs1 : List Expr} {scope : Scope} {own : List (Str × Nat)} {spos : Pos} {b : Bool} {g g1 : G} {mi mi1 : Sem1 Src} {mc mc1 : Sem1 Bool} {me : Sem1 D} (hc : X.calm = true) (hN : X.N.Nodup) (hy : X.N[i]? = some y) (hyl : X.env.scope.names.lookup y = some .local)
    (hsw : swapsWith (.ListComp elt [⟨tg, iter, ifs, 0⟩, ⟨tg1, iter1, ifs1, 0⟩] scope pos) (some (.Name y py)) spos.line X.env = pure true) (hi : OkI X tg iter mi) (ok : BlkOk X.N X.env.scope scope own)
    (hgs : ∀ i ∈ g.slots, i ∈ own.map (·.2)) (hgs1 : ∀ i ∈ g1.slots, i ∈ own.map (·.2))
    (hg : ∀ (s : Shared) (H : Hp) (C : Addr) (cl : List (Str × Addr)) (fp : List Addr), PG (X.blk s H scope (compEnvC scope cl C X.env) fp) tg (gG X.K g)) (ht : ∀ (s : Shared) (H : Hp) (C : Addr) (cl : List (Str × Addr)) (fp : List Addr), PTs (X.blk s H scope (compEnvC scope cl C X.env) fp) ifs (tB' X.K mc))
    (hi1 : ∀ (s : Shared) (H : Hp) (C : Addr) (cl : List (Str × Addr)) (fp : List Addr), PI (X.blk s H scope (compEnvC scope cl C X.env) fp) tg1 iter1 (tI X.K mi1))
    (hg1 : ∀ (s : Shared) (H : Hp) (C : Addr) (cl : List (Str × Addr)) (fp : List Addr), PG (X.blk s H scope (compEnvC scope cl C X.env) fp) tg1 (gG X.K g1)) (ht1 : ∀ (s : Shared) (H : Hp) (C : Addr) (cl : List (Str × Addr)) (fp : List Addr), PTs (X.blk s H scope (compEnvC scope cl C X.env) fp) ifs1 (tB' X.K mc1))
    (he : ∀ (s : Shared) (H : Hp) (C : Addr) (cl : List (Str × Addr)) (fp : List Addr), PE (X.blk s H scope (compEnvC scope cl C X.env) fp) elt (tE X.K me)) (hs : ∀ x, foldedSetIterable iter X.env x = pure x) (hs1 : ∀ env x, foldedSetIterable iter1 env x = pure x) :
    OkS X W (.Assign [.Name y py] (.ListComp elt [⟨tg, iter, ifs, 0⟩, ⟨tg1, iter1, ifs1, 0⟩] scope pos) spos) (fun ρ S => ((mi ρ S).bind fun src S1 => (lcRunL src (lcBody2 g (own.map (·.2)) mc mi1 g1 mc1 me ρ) src.items 0 S1).bind fun xs S3 => mkL b xs S3).toS ρ fun d S1 => match asgG (.nm i) d ρ with
      | some ρ' => .nx ρ' S1
      | none => .no) := ps_weak (ps_setLc2 hc hN hy hyl hsw hi ok hgs1 hg ht hi1 hg1 ht1 he hs hs1) fun D σ H ⟨T, ρ, S, h, s, r, p⟩ => by
  subst h
  refine lc2_reads (b := b) hgs ⟨T, ρ, S, rfl, s, r, p.toS.imp fun d S1 T1 e1 s1 p1 v rv => ?_⟩
  exact p1.nx s1 ((r.mono e1).set i rv)
theorem okS_setDc {i : Nat} {y : Str} {py : Pos} {kx vx tg iter : Expr} {ifs : List Expr} {scope : Scope} {own : List (Str × Nat)} {spos : Pos} {b : Bool} {g : G} {mi : Sem1 Src} {mc : Sem1 Bool} {mk mv : Sem1 D} (hc : X.calm = true) (hN : X.N.Nodup) (hy : X.N[i]? = some y) (hyl : X.env.scope.names.lookup y = some .local)
    (hsw : swapsWith (.DictComp kx vx [⟨tg, iter, ifs, 0⟩] scope pos) (some (.Name y py)) spos.line X.env = pure true) (hi : OkI X tg iter mi) (ok : BlkOk X.N X.env.scope scope own)
    (hgs : ∀ i ∈ g.slots, i ∈ own.map (·.2))
    (hg : ∀ (s : Shared) (H : Hp) (C : Addr) (cl : List (Str × Addr)) (fp : List Addr), PG (X.blk s H scope (compEnvC scope cl C X.env) fp) tg (gG X.K g)) (ht : ∀ (s : Shared) (H : Hp) (C : Addr) (cl : List (Str × Addr)) (fp : List Addr), PTs (X.blk s H scope (compEnvC scope cl C X.env) fp) ifs (tB' X.K mc))
    (hk : ∀ (s : Shared) (H : Hp) (C : Addr) (cl : List (Str × Addr)) (fp : List Addr), PE (X.blk s H scope (compEnvC scope cl C X.env) fp) kx (tE X.K mk))
    (he : ∀ (s : Shared) (H : Hp) (C : Addr) (cl : List (Str × Addr)) (fp : List Addr), PE (X.blk s H scope (compEnvC scope cl C X.env) fp) vx (tE X.K mv)) (hs : ∀ x, foldedSetIterable iter X.env x = pure x) :
    OkS X W (.Assign [.Name y py] (.DictComp kx vx [⟨tg, iter, ifs, 0⟩] scope pos) spos) (fun ρ S => ((mi ρ S).bind fun src S1 => (dcRun src (dcBody g (own.map (·.2)) mc mk mv ρ) [] src.items 0 S1).bind fun kvs S3 => mkD b false kvs S3).toS ρ fun d S1 => match asgG (.nm i) d ρ with
      | some ρ' => .nx ρ' S1
      | none => .no) := ps_weak (ps_setDc hc hN hy hyl hsw hi ok hg ht hk he hs) fun D σ H ⟨T, ρ, S, h, s, r, p⟩ => by
  subst h
  refine dc_reads (b := b) hgs ⟨T, ρ, S, rfl, s, r, p.toS.imp fun d S1 T1 e1 s1 p1 v rv => ?_⟩
  exact p1.nx s1 ((r.mono e1).set i rv)
theorem asgN_two {i j : Nat} {d1 d2 : D} {ρ : Env} : asgN [i, j] [d1, d2] ρ = some ((ρ.set i (some d1)).set j (some d2)) := rfl
theorem okS_par2 {i j : Nat} {x y : Str} {a b : Expr} {px py pt : Pos} {kt k2 : Nat} {pt2 spos : Pos} (hc : X.calm = true) (hN : X.N.Nodup) (hi : X.N[i]? = some x) (hj : X.N[j]? = some y) (hij : i ≠ j) (hx : X.env.scope.names.lookup x = some .local) (hy : X.env.scope.names.lookup y = some .local) (ha : OkL X [a, b] ml)
    (hw : swappedStores [.Tuple [.Name x px, .Name y py] kt pt] (.Tuple [a, b] k2 pt2) X.env = pure (some [x, y])) :
    OkS X W (.Assign [.Tuple [.Name x px, .Name y py] kt pt] (.Tuple [a, b] k2 pt2) spos) (fun ρ S => (ml ρ S).toS ρ fun ds S1 => match asgN [i, j] ds ρ with
      | some ρ' => .nx ρ' S1
      | none => .no) := ps_weak (ps_par hc hN hi hj hij hx hy ha hw rfl) fun D σ H ⟨T, ρ, S, h, s, r, p⟩ => by
  subst h
  refine ⟨T, ρ, S, rfl, s, r, p.toS.imp fun ds S1 T1 e1 s1 p1 vs rv => ?_⟩
  match ds, rv with
  | [], _ => exact p1.elim
  | [_], _ => exact p1.elim
  | _ :: _ :: _ :: _, _ => exact p1.elim
  | [d1, d2], rv =>
    obtain ⟨v, u, rfl, h1, h2⟩ := rv.two
    exact ⟨v, u, rfl, p1.nx s1 (((r.mono e1).set i h1).set j h2)⟩
theorem okS_par3 {i j l : Nat} {x y z : Str} {a b c : Expr} {px py pz pt : Pos} {kt k2 : Nat} {pt2 spos : Pos} (hc : X.calm = true) (hN : X.N.Nodup) (hi : X.N[i]? = some x) (hj : X.N[j]? = some y) (hl : X.N[l]? = some z) (hij : i ≠ j) (hil : i ≠ l) (hjl : j ≠ l)
    (hx : X.env.scope.names.lookup x = some .local) (hy : X.env.scope.names.lookup y = some .local) (hz : X.env.scope.names.lookup z = some .local) (ha : OkL X [a, b, c] ml)
    (hw : swappedStores [.Tuple [.Name x px, .Name y py, .Name z pz] kt pt] (.Tuple [a, b, c] k2 pt2) X.env = pure (some [x, y, z])) :
    OkS X W (.Assign [.Tuple [.Name x px, .Name y py, .Name z pz] kt pt] (.Tuple [a, b, c] k2 pt2) spos) (fun ρ S => (ml ρ S).toS ρ fun ds S1 => match asgN [i, j, l] ds ρ with
      | some ρ' => .nx ρ' S1
      | none => .no) := ps_weak (ps_par3 hc hN hi hj hl hij hil hjl hx hy hz ha hw rfl) fun D σ H ⟨T, ρ, S, h, s, r, p⟩ => by
  subst h
  refine ⟨T, ρ, S, rfl, s, r, p.toS.imp fun ds S1 T1 e1 s1 p1 vs rv => ?_⟩
  match ds, rv with
  | [], _ => exact p1.elim
  | [_], _ => exact p1.elim
  | [_, _], _ => exact p1.elim
  | _ :: _ :: _ :: _ :: _, _ => exact p1.elim
  | [d1, d2, d3], rv =>
    obtain ⟨v, vr, rfl, h1, h2⟩ := rv.cons_inv
    obtain ⟨u, w, rfl, h3, h4⟩ := h2.two
    exact ⟨v, u, w, rfl, p1.nx s1 ((((r.mono e1).set i h1).set j h3).set l h4)⟩
/-- a tuple display taken apart at once, stored from the left -/
theorem okS_parT {is : List Nat} {tg : Expr} {es : List Expr} {k2 : Nat} {pt2 spos : Pos} {g : G} (hg : PG X (tg) (gG X.K (.tp g))) (ha : OkL X es ml) (hgn : ∀ ds ρ, asgN is ds ρ = asgL g ds ρ) (hlen : ∀ ρ S ds S', ml ρ S = .ok ds S' → ds.length ≤ LMAX)
    (hw : swappedStores [tg] (.Tuple es k2 pt2) X.env = pure none) (h1 : (assignEach [tg] X.env).map (·.2) = [assign tg X.env]) : OkS X W (.Assign [tg] (.Tuple es k2 pt2) spos) (fun ρ S => (ml ρ S).toS ρ fun ds S1 => match asgN is ds ρ with
      | some ρ' => .nx ρ' S1
      | none => .no) := ps_weak (okS_asg (okE_tup (k := k2) (pos := pt2) ha) hg rfl hw h1) fun D σ H ⟨T, ρ, S, h, s, r, p⟩ => by
  subst h
  refine ⟨T, ρ, S, rfl, s, r, ?_⟩
  show PostS X.K W T (((ml ρ S).bind fun xs S' => mkT xs S').toS ρ fun d S1 => match asgG (.tp g) d ρ with
    | some ρ' => .nx ρ' S1
    | none => .no) D
  dsimp only at p
  cases hm : ml ρ S with
  | ex _ _ _ => rw [hm] at p; exact (show False from p).elim
  | no => rw [hm] at p; exact (show False from p).elim
  | ok ds S1 =>
    rw [hm] at p
    have p : PostS X.K W T (match asgN is ds ρ with
      | some ρ' => RS.nx ρ' S1
      | none => RS.no) D := p
    rw [hgn] at p
    show PostS X.K W T ((mkT ds S1).toS ρ fun d S1 => match asgG (.tp g) d ρ with
      | some ρ' => .nx ρ' S1
      | none => .no) D
    unfold mkT
    rw [if_pos (hlen _ _ _ _ hm)]
    show PostS X.K W T (match asgG (.tp g) (.tup ds) ρ with
      | some ρ' => .nx ρ' S1
      | none => .no) D
    simp only [asgG]
    exact p
theorem okS_put {o i v : Expr} {mo mi mv : Sem1 D} {tpos spos : Pos} (hu : X.A.units + 1 < cLine) (ho : OkE X o mo) (hi : OkE X i mi) (hv : OkE X v mv) (hs : swapsWithSole [.Subscript o i tpos] v spos.line X.env = pure false) (hw : swappedStores [.Subscript o i tpos] v X.env = pure none)
    (ha : ∀ v, assign (.Subscript o i tpos) X.env v = (do
      let ov ← holding [v] (eval o X.env)
      let iv ← holding [v, ov] (eval i X.env)
      standAt tpos
      holding [v, ov, iv] (setItem ov iv v)
      release [v, ov, iv] [])) : OkS X W (.Assign [.Subscript o i tpos] v spos) (fun ρ S => (mv ρ S).toS ρ fun v S1 => (mo ρ S1).toS ρ fun x S2 => (mi ρ S2).toS ρ fun y S3 => match putD x y v S3 with
      | some S4 => .nx ρ S4
      | none => .no) := by
  have hset : PSet X (fun o i v H Q => rSetL o i v H Q ∨ rSetD o i v H Q) := fun pins s σ H o i v ov iv u Q I r1 r2 r3 h => h.elim (set_list pins s σ H o i v ov iv u Q I r1 r2 r3) (set_dict hu pins s σ H o i v ov iv u Q I r1 r2 r3)
  refine ps_weak (ps_asg hv (pg_sub ho hi hset ha) hs hw rfl) fun D σ H ⟨T, ρ, S, h, s, r, p⟩ => ?_
  subst h
  refine ⟨T, ρ, S, rfl, s, r, p.toS.imp fun d S1 T1 e1 s1 p1 u ru => ?_⟩
  refine ⟨T1, ρ, S1, rfl, s1, r.mono e1, p1.toS.imp fun x S2 T2 e2 s2 p2 uo ro => ?_⟩
  refine ⟨T2, ρ, S2, rfl, s2, (r.mono e1).mono e2, p2.toS.imp fun y S3 T3 e3 s3 p3 ui ri => ?_⟩
  have rd := (ru.mono e2).mono e3
  have rx := ro.mono e3
  have re := ((r.mono e1).mono e2).mono e3
  cases hp : putD x y d S3 with
  | none => rw [hp] at p3; exact p3.elim
  | some S4 =>
    rw [hp] at p3
    unfold putD at hp
    split at hp
    · rename_i n
      unfold Rep at rx
      obtain ⟨hn, rfl⟩ := rx
      split at hp
      · rename_i xs hS
        split at hp
        · rename_i k
          have := ri.int
          subst this
          simp only [Option.map_eq_some_iff] at hp
          obtain ⟨j, hj, rfl⟩ := hp
          obtain ⟨h1, h2, vs, hh, rl⟩ := s3.ob n _ hS
          left
          refine ⟨_, vs, k, j, rfl, rfl, hh, by rw [← rl.length]; exact hj, ?_⟩
          have rl' := RepL.set rd j rl
          have ex := ext_setH (o := HO.lst (vs.set j u)) s3 hS ⟨h1, h2⟩
          have so := sok_setH (o := HO.lst (vs.set j u)) (q' := .lst (xs.set j d)) s3 hS trivial ⟨h1, h2⟩ ⟨h1, h2, _, upd_same, rl'.mono ex⟩ trivial
          exact p3 _ σ ex so (re.mono ex)
        · cases hp
      · rename_i t kvs hS
        split at hp
        · rename_i q hq
          split at hp
          · rename_i hc
            rw [Bool.and_eq_true] at hc
            cases hp
            obtain ⟨h1, h2, u2, vs, hh, dk, rl⟩ := s3.ob n _ hS
            have hlt : kvs.length < sizeLine := Nat.lt_of_lt_of_le (of_decide_eq_true hc.2) LMAX_le
            right
            rcases dk with ⟨rfl, us, rfl, e1, rfl⟩ | ⟨rfl, us, rfl, e1, rfl⟩
            · rcases key_rep ri hq with ⟨z, rfl, rfl⟩ | ⟨z, a, rfl, rfl, hz⟩
              · obtain ⟨g1, g2⟩ := putA_rep (c := KY.k) (fun a b h => by cases h; rfl) (k := z) rd e1 rl
                have hl2 : us.length < sizeLine := by
                  have := congrArg List.length e1
                  rw [List.length_map, List.length_map] at this
                  omega
                refine ⟨_, _, rfl, DPut.k hh hl2, ?_⟩
                have ex := ext_setH (o := HO.dK (putK us z u)) s3 hS ⟨h1, h2⟩
                have so := sok_setH (o := HO.dK (putK us z u)) (q' := .dct false (putA (.k z) d kvs)) s3 hS trivial ⟨h1, h2⟩ ⟨h1, h2, _, _, upd_same, .inl ⟨rfl, _, rfl, g1, rfl⟩, g2.mono ex⟩ trivial
                exact p3 _ σ ex so (re.mono ex)
              · cases hc.1
            · rcases key_rep ri hq with ⟨z, rfl, rfl⟩ | ⟨z, a, rfl, rfl, hz⟩
              · cases hc.1
              · obtain ⟨g1, g2⟩ := putA_rep (c := KY.t) (fun a b h => by cases h; rfl) (k := z) rd e1 rl
                have hl2 : us.length < sizeLine := by
                  have := congrArg List.length e1
                  rw [List.length_map, List.length_map] at this
                  omega
                refine ⟨_, _, rfl, DPut.t hh hz hl2, ?_⟩
                have ex := ext_setH (o := HO.dT (putK us z u)) s3 hS ⟨h1, h2⟩
                have so := sok_setH (o := HO.dT (putK us z u)) (q' := .dct true (putA (.t z) d kvs)) s3 hS trivial ⟨h1, h2⟩ ⟨h1, h2, _, _, upd_same, .inr ⟨rfl, _, rfl, g1, rfl⟩, g2.mono ex⟩ trivial
                exact p3 _ σ ex so (re.mono ex)
          · cases hp
        · cases hp
      · cases hp
    · cases hp
end
end LH

namespace LH
open PySem PySem.W L2 PySem.Spec PyProof.Rows
/-! ## try: .. except C as n: y = n, or y = n.value -/
/-- a def's frame (or a try in it) -/
structure TryOk (X : Cx) : Prop where
  stk : X.stack = X.env :: X.outer
  frm : X.env.frame = some X.env.locals
  ex : X.ex = []
section
variable {X : Cx} {n y x : Str} {i j k : Nat}
/-- the suite's statement -/
def tKeep (j : Nat) : Addr → Value → Option Addr → TS := fun a _ _ D σ H => D.nx (σ.set j (some (.ref a))) H
def tKeepV (K : Frag) (j : Nat) : Addr → Value → Option Addr → TS := fun a cls d D σ H => ∃ (C dx : Addr) (fs : List (Str × V)) (u : V) (q : Nat), cls = .ref C ∧ d = some dx ∧ XKn K q C ∧ H dx = some (.xd fs) ∧ fs.lookup ("value" : Str) = some u ∧ D.nx (σ.set j (some u)) H
def tAt (i : Nat) (ts : Addr → Value → Option Addr → TS) : Addr → Value → Option Addr → TS := fun a cls d D σ H => σ[i]? = some (some (.ref a)) ∧ ts a cls d D σ H
theorem suite_keep {a : Addr} {oe : Obj} {cls : Value} {d : Option Addr} {pn : List (Addr × Obj)} {py pn' pos : Pos} (hN : X.N.Nodup) (hi : X.N[i]? = some n) (hj : X.N[j]? = some y) (hn : X.env.scope.names.lookup n = some .local) (hy : X.env.scope.names.lookup y = some .local) (n1 : (n == ("__debug__" : Str)) = false) (n2 : (n == ("__classdict__" : Str)) = false) :
    PSs (X.suite a ((a, oe) :: pn)) [.Assign [.Name y py] (.Name n pn') pos] (tAt i (tKeep j) a cls d) := by
  refine pss_weak (pss_one (ps_set (X := X.suite a ((a, oe) :: pn)) hN hj (.inl hy) (pe_var hi (.inl hn) n1 n2) rfl (.inr hy))) ?_
  rintro D σ H ⟨h1, h2⟩
  exact ⟨_, h1, h2⟩
theorem pe_xval {a : Addr} {oe : Obj} {cls : Value} {d : Option Addr} {pn : List (Addr × Obj)} {pn' pos : Pos} (hz : L2.Zc cls d oe) (hf : ∃ vs, oe.data = .fields vs) (hi : X.N[i]? = some n) (hn : X.env.scope.names.lookup n = some .local) (n1 : (n == ("__debug__" : Str)) = false) (n2 : (n == ("__classdict__" : Str)) = false) :
    PE (X.suite a ((a, oe) :: pn)) (.Attribute (.Name n pn') "value" pos) (fun σ H Q => σ[i]? = some (some (.ref a)) ∧ ∃ (C dx : Addr) (fs : List (Str × V)) (u : V) (q : Nat), cls = .ref C ∧ d = some dx ∧ XKn X.K q C ∧ H dx = some (.xd fs) ∧ fs.lookup ("value" : Str) = some u ∧ Q u H) := by
  refine ⟨fun pins s σ H Q I h => ?_⟩
  obtain ⟨h1, C, dx, fs, v, q, rfl, rfl, xk, ea, l, hq⟩ := h
  have pv : PE (X.suite a ((a, oe) :: pn)) (.Name n pn') (tVar i) := pe_var hi (.inl hn) n1 n2
  refine attr_of rfl (thn (pv.run pins s σ H (fun v H1 => v = .ref a ∧ H1 = H) I ⟨_, h1, rfl, rfl⟩) fun u s1 hh => ?_)
  obtain ⟨v1, H1, I1, rv, rfl, rfl⟩ := hh
  obtain rfl : u = Value.ref a := rv
  obtain ⟨ha, _⟩ := I1.pin (a, oe) (List.mem_append_left _ (.head _))
  obtain ⟨vs, hd⟩ := hf
  have hx : ObjOk X.prog X.w H1 s1.heap dx (.xd fs) := I1.hok dx _ ea
  obtain ⟨mA, hns, hr⟩ := hx
  obtain ⟨od, ho, hl⟩ := lookIn_ns hns
  obtain ⟨u, hu, ru⟩ := RelO.some_of (v := v) (o := mA ("value" : Str)) (by rw [← l]; exact hr ("value" : Str))
  obtain ⟨D, fI, xc, _⟩ := xk.cls
  have J : PySem.W.InstAt s1.heap a oe C (some od) := ⟨ha, hz.1, by unfold PySem.W.notCls; rw [hd] <;> rfl, by rw [hz.2]; exact ho⟩
  exact HandSPX.exc_get I1.kIn J xc.ga xc.gg xc.exC (PySem.W.findObj_own xc.hd xc.va rfl (by rw [hl, hu])) (handed_of ru) ⟨v, H1, I1.tok _, ru, hq⟩
theorem suite_keepV {a : Addr} {oe : Obj} {cls : Value} {d : Option Addr} {pn : List (Addr × Obj)} {py pn' pv pos : Pos} (hz : L2.Zc cls d oe) (hf : ∃ vs, oe.data = .fields vs) (hN : X.N.Nodup) (hi : X.N[i]? = some n) (hj : X.N[j]? = some y) (hn : X.env.scope.names.lookup n = some .local) (hy : X.env.scope.names.lookup y = some .local) (n1 : (n == ("__debug__" : Str)) = false) (n2 : (n == ("__classdict__" : Str)) = false) :
    PSs (X.suite a ((a, oe) :: pn)) [.Assign [.Name y py] (.Attribute (.Name n pn') "value" pv) pos] (tAt i (tKeepV X.K j) a cls d) := by
  refine pss_weak (pss_one (ps_set (X := X.suite a ((a, oe) :: pn)) hN hj (.inl hy) (pe_xval hz hf hi hn n1 n2) rfl (.inr hy))) ?_
  rintro D σ H ⟨h1, C, dx, fs, u, q, e1, e2, xk, ea, l, h2⟩
  exact ⟨h1, C, dx, fs, u, q, e1, e2, xk, ea, l, h2⟩
/-- the class that the clause names -/
structure XNm (X : Cx) (x : Str) (k : Nat) (c : Value) : Prop where
  nm : L2.Names X x c
  ex : ∀ q C, XKn X.K q C → (k = 0 ∨ k = q) → exmOne X.K (.ref C) c = some true
theorem XNm.own {C : Addr} (hk : k ≠ 0) (hg : Gl X x) (hm : X.mg x = some (.ref C)) (hd : (x == ("__debug__" : Str)) = false) (xk : XKn X.K k C) : XNm X x k (.ref C) where
  nm := ⟨hg, hd, .inl hm⟩
  ex := fun q C2 h e => by
    rcases e with e | rfl
    · exact absurd e hk
    · have := h.at_.symm.trans xk.at_
      cases this
      obtain ⟨D, fI, xc, _⟩ := h.cls
      refine exm_x xc.exC ?_
      rw [kitCls_ref h.data.1 h.data.2]
      show mroIn X.K C (.ref C) = some true
      obtain ⟨cd, d1, _, _, d2⟩ := xc.data
      unfold mroIn
      rw [d1, Option.bind_some, d2]
      simp
theorem XNm.top {D : Addr} (hg : Gl X x) (hm : X.mg x = some (.ref D)) (hd : (x == ("__debug__" : Str)) = false) (xt : XTop X.K D) : XNm X x 0 (.ref D) where
  nm := ⟨hg, hd, .inl hm⟩
  ex := fun q C2 h _ => by
    obtain ⟨D2, fI, xc, t⟩ := h.cls
    have eD : D2 = D := by
      have := t.at_.symm.trans xt.at_
      cases this; rfl
    subst eD
    refine exm_x xt.ex ?_
    rw [kitCls_ref xt.cls xt.ty]
    exact xc.mD
/-- what is kept -/
def keptD (val : Bool) (q : Nat) (v : D) : D := if val then v else .exc q v
def tKp (K : Frag) (val : Bool) (j : Nat) : Addr → Value → Option Addr → TS := if val = true then tKeepV K j else tKeep j
theorem okS_try {W : WX} {c : Value} {val : Bool} {body : List Stmt} {st : Stmt} {np pos pos' : Pos} {mb : SemS} (ok : TryOk X) (tk : L2.Takes X W) (hN : X.N.Nodup) (hi : X.N[i]? = some n) (hln : X.env.scope.names.lookup n = some .local) (hj : j < X.N.length) (hc : XNm X x k c)
    (hb : ∀ (W : WX) (pn : List (Addr × Obj)) (xe : Value → Shared → Prop), L2.Takes (X.tr pn xe) W → PassesOwn (model X.prog X.w) X.A X.env xe → OkB (X.tr pn xe) W body mb)
    (hsu : ∀ (a : Addr) (oe : Obj) (cls : Value) (d : Option Addr) (pn : List (Addr × Obj)), L2.Zc cls d oe → (∃ vs, oe.data = .fields vs) → PSs (X.suite a ((a, oe) :: pn)) [st] (tAt i (tKp X.K val j) a cls d)) :
    OkS X W (.Try body [.ExceptHandler (some (.Name x np)) (some n) [st] pos'] [] [] pos) (fun ρ S => match mb ρ S with
      | .ex q v ρ1 S1 => if (k = 0 ∨ k = q) ∧ i < ρ1.length then .nx ((ρ1.set j (some (keptD val q v))).set i none) S1 else .no
      | r => r) := by
  refine ps_weak (ps_try_keep (tb := fun W => sB X.K W mb) ok.stk ok.frm ok.ex hN hi hln hc.nm tk hb hsu) ?_
  rintro D σ H ⟨T, ρ, S, rfl, s, r, p⟩
  refine ⟨T, ρ, S, rfl, s, r, ?_⟩
  dsimp only at p
  cases hm : mb ρ S with
  | nx _ _ => rw [hm] at p; exact p
  | bk _ _ => rw [hm] at p; exact p
  | ct _ _ => rw [hm] at p; exact p
  | rt _ _ => rw [hm] at p; exact p
  | no => rw [hm] at p; exact p
  | ex q v ρ1 S1 =>
    rw [hm] at p
    dsimp only at p
    split at p
    · rename_i hk
      obtain ⟨hk, hi2⟩ := hk
      intro T1 σ1 e1 s1 r1 C dx fs u xk fr o l rv
      refine ⟨true, hc.ex q C xk hk, fun _ a ha => ?_, fun z => nomatch z⟩
      have li : i < σ1.length := by rw [← r1.1]; exact hi2
      refine ⟨by rw [List.getElem?_set_self li], ?_⟩
      have dne : dx ≠ a := fun e => by rw [e, ha] at o; cases o
      -- the place with the kept exception
      have fin : ∀ oe : Obj, L2.Zc (.ref C) (some dx) oe → (∃ vs, oe.data = .fields vs) → ∀ w : V, (val = true ∧ w = u ∨ val = false ∧ w = .ref a) → D.nx (((σ1.set i (some (.ref a))).set j (some w)).set i none) (upd T1.H a (kept a oe)) := by
        intro oe hz hf w hw
        have x2 := ext_putF (o := kept a oe) s1 ha
        have s2 := sok_putF (o := kept a oe) s1 ha
        refine p (T1.putF a (kept a oe)) _ (e1.trans x2) s2 ⟨?_, fun m d hd => ?_⟩
        · simp only [List.length_set]; exact r1.1
        · by_cases hmi : m = i
          · subst hmi
            by_cases hl : m < ρ1.length
            · rw [List.getElem?_set_self (by simpa using hl)] at hd; cases hd
            · rw [List.getElem?_eq_none (by simpa using hl)] at hd; cases hd
          · rw [List.getElem?_set_ne (Ne.symm hmi)] at hd ⊢
            by_cases hmj : m = j
            · subst hmj
              by_cases hl : m < ρ1.length
              · rw [List.getElem?_set_self hl] at hd
                cases hd
                rw [List.getElem?_set_self (by simp only [List.length_set]; rw [← r1.1]; exact hl)]
                refine ⟨w, rfl, ?_⟩
                rcases hw with ⟨rfl, rfl⟩ | ⟨rfl, rfl⟩
                · exact rv.mono x2
                · show Rep X.K (T1.putF a (kept a oe)) (.exc q v) (.ref a)
                  unfold Rep
                  exact ⟨a, dx, C, oe, fs, u, rfl, .inr rfl, upd_same, hz, hf, xk, .inl fr, (upd_ne dne).trans o, l, rv.mono x2⟩
              · rw [List.getElem?_eq_none (by simpa using hl)] at hd; cases hd
            · rw [List.getElem?_set_ne (Ne.symm hmj)] at hd ⊢
              rw [List.getElem?_set_ne (Ne.symm hmi)]
              obtain ⟨z, e, rz⟩ := r1.2 m d hd
              exact ⟨z, e, rz.mono x2⟩
      cases val with
      | true => exact ⟨C, dx, fs, u, q, rfl, rfl, xk, o, l, fun oe hz hf _ => fin oe hz hf u (.inl ⟨rfl, rfl⟩)⟩
      | false => exact fun oe hz hf _ => fin oe hz hf (.ref a) (.inr ⟨rfl, rfl⟩)
    · exact p.elim
end
end LH

namespace LH
open PySem PySem.W L2 PySem.Spec PyProof.Rows
/-! ## does the tree say what the code says -/
structure MC where
  N : List Str
  sc : Scope
  fn : Str → Bool
  gs : List (Str × Nat)
  ar : List (List Str)
  kw : List (Nat × Nat × List Str × List Nat)
  cs : List (Str × Const)
  bl : List Str
  xs : List Nat := []
def MC.blk (mc : MC) (scope : Scope) : MC := { mc with sc := relS scope mc.sc, fn := fun x => scope.names.lookup x == some .cell }
def visB (sc : Scope) (x : Str) : Bool := match sc.names.lookup x with
  | some .local => true
  | some .cell => true
  | some .free => true
  | _ => false
def glB (sc : Scope) (x : Str) : Bool := match sc.names.lookup x with
  | some .globalImplicit => true
  | _ => false
def noDbg (x : Str) : Bool := !(x == ("__debug__" : Str)) && !(x == ("__classdict__" : Str))
/-- a builtin may be named so -/
def MC.b (mc : MC) (x : Str) : Bool := decide (x ∈ mc.bl) && glB mc.sc x
def plainI : Expr → Bool
  | .Slice .. => false
  | _ => true
def notSet : Expr → Bool
  | .Set .. => false
  | _ => true
mutual
def mG (mc : MC) : G → Expr → Bool
  | .nm i, x => match x with
    | .Name y _ => decide (mc.N[i]? = some y) && (match mc.sc.names.lookup y with
      | some .local => true
      | some .cell => mc.fn y
      | _ => false)
    | _ => false
  | .tp r, x => match x with
    | .Tuple es _ _ => mGL mc r es
    | _ => false
  | _, _ => false
def mGL (mc : MC) : G → List Expr → Bool
  | .nil, xs => xs.isEmpty
  | .cons a r, xs => match xs with
    | x :: xs => notStar x && mG mc a x && mGL mc r xs
    | [] => false
  | _, _ => false
end
def tyNames (mc : MC) : List Ty → List Expr → Bool
  | [], [] => true
  | t :: ts, .Name y _ :: xs => decide (y = t.nm) && mc.b y && tyNames mc ts xs
  | _, _ => false
mutual
def mE : Bool → MC → E → Expr → Bool
  | _, mc, .loc i, x => match x with
    | .Name y _ => decide (mc.N[i]? = some y) && visB mc.sc y && noDbg y
    | _ => false
  | _, _, .cst k, x => match x with
    | .Constant k' _ _ => decide (k' = k) && isC k
    | _ => false
  | _, mc, .glb z k, x => match x with
    | .Name y _ => decide (y = z) && glB mc.sc z && noDbg z && decide (mc.cs.lookup z = some k)
    | _ => false
  | _, mc, .tup es, x => match x with
    | .Tuple xs _ _ => mL mc es xs
    | _ => false
  | _, mc, .lst _ es, x => match x with
    | .List xs _ => mL mc es xs
    | _ => false
  | _, _, .dct _ _, x => match x with
    | .Dict [] [] _ => true
    | _ => false
  | _, mc, .bin _ op a b, x => match x with
    | .BinOp y o z _ => decide (o = bop op) && mE false mc a y && mE false mc b z
    | _ => false
  | _, mc, .neg a, x => match x with
    | .UnaryOp .USub y _ => mE false mc a y
    | _ => false
  | _, mc, .cmp op a b, x => match x with
    | .Compare y [o] [z] _ => decide (o = cop op) && mE false mc a y && mE false mc b z && !behindInMarks (cop op) z
    | _ => false
  | _, mc, .chain o1 o2 a b d, x => match x with
    | .Compare y [p, q] [z, w] _ => decide (p = cop o1) && decide (q = cop o2) && mE false mc a y && mE false mc b z && mE false mc d w && !lastMarks [cop o1, cop o2] [z, w]
    | _ => false
  | t, mc, .not a, x => match x with
    | .UnaryOp .Not y _ => mE t mc a y
    | _ => false
  | t, mc, .and a b, x => match x with
    | .BoolOp .And (y :: z :: r) p => mE t mc a y && (if r.isEmpty then mE t mc b z else mE t mc b (.BoolOp .And (z :: r) p))
    | _ => false
  | t, mc, .or a b, x => match x with
    | .BoolOp .Or (y :: z :: r) p => mE t mc a y && (if r.isEmpty then mE t mc b z else mE t mc b (.BoolOp .Or (z :: r) p))
    | _ => false
  | t, mc, .ite k a b, x => match x with
    | .IfExp y z w _ => !t && mE true mc k y && mE false mc a z && mE false mc b w
    | _ => false
  | _, mc, .ix a b, x => match x with
    | .Subscript y z _ => plainI z && mE false mc a y && mE false mc b z
    | _ => false
  | _, mc, .sl _ a lo hi, x => match x with
    | .Subscript y (.Slice l h none _) _ => mE false mc a y && (match l with
      | none => lo.isNop
      | some l => !lo.isNop && mE false mc lo l) && (match h with
      | none => hi.isNop
      | some h => !hi.isNop && mE false mc hi h)
    | _ => false
  | _, mc, .slr _ a, x => match x with
    | .Subscript y (.Slice none none (some (.UnaryOp .USub (.Constant (.int 1) _ _) _)) _) _ => mE false mc a y
    | _ => false
  | _, _, .nop, _ => false
  | _, _, .bad, _ => true
  | _, mc, .call f es, x => match x with
    | .Call (.Name y _) xs [] _ => decide (mc.gs.lookup y = some f) && glB mc.sc y && noDbg y && mL mc es xs
    | _ => false
  | _, mc, .callC f es, x => match x with
    | .Call (.Name y _) (z :: xs) [] _ => decide (mc.gs.lookup y = some f) && glB mc.sc y && noDbg y && mL mc es (z :: xs)
    | _ => false
  | _, mc, .callk f es ks p, x => match x with
    | .Call (.Name y _) xs kws _ => decide (mc.gs.lookup y = some f) && glB mc.sc y && noDbg y && mL mc es xs && mK mc ks kws && kws.all (fun k => k.arg.isSome) && decide ((f, xs.length, kws.filterMap (·.arg), p) ∈ mc.kw)
    | _ => false
  | _, mc, .bi _ b es, x => match x with
    | .Call (.Name y _) (z :: xs) [] _ => decide (y = b.nm) && mc.b y && mL mc es (z :: xs)
    | _ => false
  | _, mc, .lrng1 _ a, x => match x with
    | .Call (.Name y _) [.Call (.Name z _) [w] [] _] [] _ => decide (y = "list") && mc.b y && decide (z = "range") && mc.b z && notStar w && mE false mc a w
    | _ => false
  | _, mc, .lrng2 _ a b, x => match x with
    | .Call (.Name y _) [.Call (.Name z _) [w, v] [] _] [] _ => decide (y = "list") && mc.b y && decide (z = "range") && mc.b z && notStar w && notStar v && mE false mc a w && mE false mc b v
    | _ => false
  | _, mc, .isi a ts one, x => match x with
    | .Call (.Name y _) [z, w] [] _ => decide (y = "isinstance") && mc.b y && notStar z && mE false mc a z && decide (ts.length ≤ 100) && (if one then tyNames mc ts [w] else match w with
      | .Tuple ws _ _ => tyNames mc ts ws
      | _ => false)
    | _ => false
  | _, mc, .me _ k a es, x => match x with
    | .Call (.Attribute o nm apos) xs [] pos => mE false mc a o && notSuper o && (apos.endLine == pos.line) && mL mc es xs && (match k, xs with
      | .append, [_] => decide (nm = "append")
      | .insert, [_, _] => decide (nm = "insert")
      | .pop, [] => decide (nm = "pop")
      | .pop, [_] => decide (nm = "pop")
      | .get, [_, _] => decide (nm = "get")
      | .bitlen, [] => decide (nm = "bit_length")
      | .count, [_] => decide (nm = "count")
      | .index, [_] => decide (nm = "index")
      | .join, [_] => decide (nm = "join")
      | _, _ => false)
    | _ => false
  | _, mc, .lc _ own elt g it cs, x => match x with
    | .ListComp y [⟨tg, iter, ifs, 0⟩] scope _ => mI mc it tg iter && notSet iter && blkC mc.N mc.sc scope own && g.slots.all (fun i => decide (i ∈ own.map (·.2))) && mG (mc.blk scope) g tg && mC (mc.blk scope) cs ifs && mE false (mc.blk scope) elt y
    | _ => false
  | _, mc, .lc2 _ own elt g it cs g1 it1 cs1, x => match x with
    | .ListComp y [⟨tg, iter, ifs, 0⟩, ⟨tg1, iter1, ifs1, 0⟩] scope _ => mI mc it tg iter && notSet iter && blkC mc.N mc.sc scope own && g.slots.all (fun i => decide (i ∈ own.map (·.2))) && mG (mc.blk scope) g tg && mC (mc.blk scope) cs ifs && mE false (mc.blk scope) elt y && notSet iter1 && g1.slots.all (fun i => decide (i ∈ own.map (·.2))) && mI (mc.blk scope) it1 tg1 iter1 && mG (mc.blk scope) g1 tg1 && mC (mc.blk scope) cs1 ifs1
    | _ => false
  | _, mc, .dc _ own ke ve g it cs, x => match x with
    | .DictComp kx vx [⟨tg, iter, ifs, 0⟩] scope _ => mI mc it tg iter && notSet iter && blkC mc.N mc.sc scope own && g.slots.all (fun i => decide (i ∈ own.map (·.2))) && mG (mc.blk scope) g tg && mC (mc.blk scope) cs ifs && mE false (mc.blk scope) ke kx && mE false (mc.blk scope) ve vx
    | _ => false
  | _, mc, .sst _ a, x => match x with
    | .Call (.Name y _) [.Call (.Name z _) [w] [] _] [] _ => decide (y = "sorted") && decide (z = "set") && mc.b y && mc.b z && notStar w && mE false mc a w
    | _ => false
  | _, mc, .lset a, x => match x with
    | .Call (.Name y _) [.Call (.Name z _) [w] [] _] [] _ => decide (y = "len") && decide (z = "set") && mc.b y && mc.b z && notStar w && mE false mc a w
    | _ => false
  | _, mc, .dd _ es, x => match x with
    | .Dict keys values _ => mP mc es keys values && keys.all (·.isSome) && decide (keys.length = values.length) && !keys.isEmpty && decide (keys.length ≤ 15)
    | _ => false
  | _, mc, .ddt _ es, x => match x with
    | .Dict keys values _ => mP mc es keys values && keys.all (·.isSome) && decide (keys.length = values.length) && !keys.isEmpty && decide (keys.length ≤ 15)
    | _ => false
  | _, mc, .fnv z, x => match x with
    | .Name y _ => decide (y = z) && glB mc.sc y && noDbg y && (mc.gs.lookup y).isSome
    | _ => false
  | _, mc, .cv tab e es, x => match x with
    | .Call ce (z :: xs) [] _ => isCal ce && mE false mc e ce && mL mc es (z :: xs) && tab.all (fun p => decide (mc.gs.lookup p.1 = some p.2))
    | _ => false
  | _, mc, .val e, x => match x with
    | .Attribute y nm _ => decide (nm = "value") && notSuper y && mE false mc e y
    | _ => false
  | _, mc, .isx e c, x => match x with
    | .Call (.Name y _) [z, .Name w _] [] _ => decide (y = "isinstance") && mc.b y && notStar z && mE false mc e z && (match c with
      | none => decide (w = "ValueError") && mc.b w
      | some j => decide (w = xName j) && glB mc.sc w && noDbg w && decide (0 ∈ mc.xs) && decide (j ∈ mc.xs))
    | _ => false
def mP : MC → EL → List (Option Expr) → List Expr → Bool
  | _, .nil, ks, vs => ks.isEmpty && vs.isEmpty
  | mc, .cons k (.cons v r), ks, vs => match ks, vs with
    | some x :: ks, y :: vs => mE false mc k x && mE false mc v y && mP mc r ks vs
    | _, _ => false
  | _, _, _, _ => false
def mL : MC → EL → List Expr → Bool
  | _, .nil, xs => xs.isEmpty
  | mc, .cons e r, xs => match xs with
    | x :: xs => notStar x && mE false mc e x && mL mc r xs
    | [] => false
def mK : MC → EL → List Keyword → Bool
  | _, .nil, xs => xs.isEmpty
  | mc, .cons e r, xs => match xs with
    | ⟨_, x, _⟩ :: xs => mE false mc e x && mK mc r xs
    | [] => false
def mC : MC → EL → List Expr → Bool
  | _, .nil, xs => xs.isEmpty
  | mc, .cons e r, xs => match xs, r with
    | [x], .nil => mE true mc e x
    | _, _ => false
def mI : MC → I → Expr → Expr → Bool
  | mc, .it e, _, x => mE false mc e x
  | mc, .rng1 a, _, x => match x with
    | .Call (.Name y _) [w] [] _ => decide (y = "range") && mc.b y && notStar w && mE false mc a w
    | _ => false
  | mc, .rng2 a b, _, x => match x with
    | .Call (.Name y _) [w, v] [] _ => decide (y = "range") && mc.b y && notStar w && notStar v && mE false mc a w && mE false mc b v
    | _ => false
  | mc, .enum a, tg, x => match tg, x with
    | .Tuple _ _ _, .Call (.Name y _) [w] [] _ => decide (y = "enumerate") && mc.b y && notStar w && mE false mc a w
    | _, _ => false
  | mc, .zip a b, tg, x => match tg, x with
    | .Tuple _ _ _, .Call (.Name y _) [w, v] [] _ => decide (y = "zip") && mc.b y && notStar w && notStar v && mE false mc a w && mE false mc b v
    | _, _ => false
  | mc, .revr a, _, x => match x with
    | .Call (.Name y _) [.Call (.Name z _) [w] [] _] [] _ => decide (y = "reversed") && mc.b y && decide (z = "range") && mc.b z && notStar w && mE false mc a w
    | _ => false
  | mc, .items a, tg, x => match tg, x with
    | .Tuple _ _ _, .Call (.Attribute o nm apos) [] [] pos => decide (nm = "items") && notSuper o && (apos.endLine == pos.line) && mE false mc a o
    | _, _ => false
  | mc, .values a, _, x => match x with
    | .Call (.Attribute o nm apos) [] [] pos => decide (nm = "values") && notSuper o && (apos.endLine == pos.line) && mE false mc a o
    | _ => false
  | _, _, _, _ => false
end
/-! ## what it leans on -/
structure FnAt (X : Cx) (c : Nat → List D → Store → R D) (mc : MC) (x : Str) (i : Nat) : Prop where
  ex : ∃ (f : Addr) (fd : FuncData) (ps : List Str) (k : Nat), FnG X.prog X.w X.K X.mg X.base k f fd ps (spOf X.K c i ps.length) ∧ Room k X.A ∧ X.mg x = some (.ref f) ∧ keepIn X.K (.ref f) = true ∧ Binds X.K fd ps [] ∧
    (∀ n ks p, (i, n, ks, p) ∈ mc.kw → KwB X.K fd ps n ks p) ∧ (∀ ds S, (c i ds S).yes → ds.length = ps.length) ∧ nsIn X.K mainGlobals x = some (some (.ref f))
/-- the program's own exceptions, those of the list xs -/
structure XAll (P : Program) (K : Frag) (mg : Str → Option Value) (xs : List Nat) : Prop where
  top : 0 ∈ xs → ∃ D, XTop K D ∧ mg (xName 0) = some (.ref D)
  own : ∀ k ∈ xs, k ≠ 0 → ∃ D fI C, XBase P K D fI ∧ XCls K D fI (xName k) C ∧ XKn K k C ∧ mg (xName k) = some (.ref C)
  sup : 0 ∈ xs → mg "super" = none
structure Good (X : Cx) (c : Nat → List D → Store → R D) (mc : MC) : Prop where
  N : X.N = mc.N
  nd : X.N.Nodup
  sc : X.env.scope = mc.sc
  fn : X.fn = mc.fn
  kind : X.env.scope.kind = .function
  calm : X.calm = true
  hu : X.A.units + 65 < cLine
  hg : X.A.guards = some []
  sys : ∃ o, X.base.get? sysModules = some o
  cst : ∀ x k, mc.cs.lookup x = some k → CstAt X.K X.mg x k
  fns : ∀ x i, mc.gs.lookup x = some i → FnAt X c mc x i
  blt : ∀ x ∈ mc.bl, X.mg x = none
  rm : Room 2 X.A
  x : XAll X.prog X.K X.mg mc.xs
section
variable {X : Cx} {c : Nat → List D → Store → R D} {mc : MC}
theorem Good.hu1 (g : Good X c mc) : X.A.units + 1 < cLine := Nat.lt_of_le_of_lt (by omega) g.hu
theorem Good.gl (g : Good X c mc) {x : Str} (h : glB mc.sc x = true) : Gl X x := by
  unfold glB at h
  show X.env.scope.names.lookup x = some .globalImplicit
  rw [g.sc]
  split at h
  · assumption
  · cases h
theorem Good.vis (g : Good X c mc) {x : Str} (h : visB mc.sc x = true) : Vis X.env.scope x := by
  unfold visB at h
  show X.env.scope.names.lookup x = _ ∨ X.env.scope.names.lookup x = _ ∨ X.env.scope.names.lookup x = _
  rw [g.sc]
  split at h
  · exact .inl (by assumption)
  · exact .inr (.inl (by assumption))
  · exact .inr (.inr (by assumption))
  · cases h
theorem Good.b (g : Good X c mc) {x : Str} (h : mc.b x = true) : Gl X x ∧ X.mg x = none := by
  unfold MC.b at h
  rw [Bool.and_eq_true] at h
  exact ⟨g.gl h.2, g.blt x (of_decide_eq_true h.1)⟩
theorem noDbg_1 {x : Str} (h : noDbg x = true) : (x == ("__debug__" : Str)) = false ∧ (x == ("__classdict__" : Str)) = false := by
  unfold noDbg at h
  simpa using h
theorem Good.at (g : Good X c mc) {i : Nat} {x : Str} (h : mc.N[i]? = some x) : X.N[i]? = some x := by rw [g.N]; exact h
theorem Good.blk (g : Good X c mc) {s : Shared} {H : Hp} {scope : Scope} {C : Addr} {cl : List (Str × Addr)} {fp : List Addr} (hk : scope.kind = .function) : Good (X.blk s H scope (compEnvC scope cl C X.env) fp) c (mc.blk scope) where
  N := g.N
  nd := g.nd
  sc := by show relS scope X.env.scope = relS scope mc.sc; rw [g.sc]
  fn := rfl
  kind := hk
  calm := g.calm
  hu := g.hu
  hg := g.hg
  sys := g.sys
  cst := g.cst
  fns := fun x i h => ⟨(g.fns x i h).ex⟩
  blt := g.blt
  rm := g.rm
  x := g.x
/-- a try's body -/
theorem Good.tr (g : Good X c mc) {pn : List (Addr × Obj)} {xe : Value → Shared → Prop} : Good (X.tr pn xe) c mc where
  N := g.N
  nd := g.nd
  sc := g.sc
  fn := g.fn
  kind := g.kind
  calm := g.calm
  hu := g.hu
  hg := g.hg
  sys := g.sys
  cst := g.cst
  fns := fun x i h => ⟨(g.fns x i h).ex⟩
  blt := g.blt
  rm := g.rm
  x := g.x
theorem Good.fv (g : Good X c mc) {tab : List (Str × Nat)} (h : tab.all (fun p => decide (mc.gs.lookup p.1 = some p.2)) = true) (y : Str) (j : Nat) (e : tab.lookup y = some j) : FnVal X c y j := by
  have m : (y, j) ∈ tab := by
    clear h
    induction tab with
    | nil => simp at e
    | cons p r ih =>
      obtain ⟨z, k⟩ := p
      rw [List.lookup_cons] at e
      split at e
      · rename_i q
        cases e
        have : y = z := by simpa using q
        rw [this]; exact .head _
      · exact .tail _ (ih e)
  have := of_decide_eq_true (List.all_eq_true.mp h _ m)
  obtain ⟨f, fd, ps, k, F, hr, hm, hk, hb, _, har, hn⟩ := (g.fns y j this).ex
  exact ⟨f, fd, ps, k, F, hr, hn, hm, hk, hb, har⟩
end
theorem plainI_ix {e : Expr} (h : plainI e = true) : PlainIx e := by
  intro o i
  cases e <;> first | rfl | cases h
theorem notSet_pure {e : Expr} (h : notSet e = true) (env : PySem.Env) (x : Value) : foldedSetIterable e env x = pure x := by
  cases e <;> first | rfl | cases h
theorem mL_star : ∀ {mc : MC} {es : EL} {xs : List Expr}, mL mc es xs = true → xs.all notStar = true
  | _, .nil, [], _ => rfl
  | _, .nil, _ :: _, h => by simp [mL] at h
  | _, .cons _ _, [], h => by simp [mL] at h
  | mc, .cons e r, x :: xs, h => by
    simp only [mL, Bool.and_eq_true] at h
    rw [List.all_cons, h.1.1, mL_star h.2]; rfl
def EL.len : EL → Nat
  | .nil => 0
  | .cons _ r => r.len + 1
theorem mL_len : ∀ {mc : MC} {es : EL} {xs : List Expr}, mL mc es xs = true → xs.length = es.len
  | _, .nil, [], _ => rfl
  | _, .nil, _ :: _, h => by simp [mL] at h
  | _, .cons _ _, [], h => by simp [mL] at h
  | mc, .cons e r, x :: xs, h => by
    simp only [mL, Bool.and_eq_true] at h
    rw [List.length_cons, mL_len h.2]; rfl
theorem mK_len : ∀ {mc : MC} {es : EL} {xs : List Keyword}, mK mc es xs = true → xs.length = es.len
  | _, .nil, [], _ => rfl
  | _, .nil, _ :: _, h => by simp [mK] at h
  | _, .cons _ _, [], h => by simp [mK] at h
  | mc, .cons e r, ⟨_, x, _⟩ :: xs, h => by
    simp only [mK, Bool.and_eq_true] at h
    rw [List.length_cons, mK_len h.2]; rfl
theorem semL_len {c : Nat → List D → Store → R D} : ∀ {es : EL} {ρ : Env} {S S' : Store} {xs : List D}, semL c es ρ S = .ok xs S' → xs.length = es.len
  | .nil, _, _, _, _, h => by simp only [semL] at h; cases h; rfl
  | .cons e r, ρ, S, S', xs, h => by
    simp only [semL] at h
    cases h1 : semE c e ρ S with
    | ex _ _ _ => rw [h1] at h; cases h
    | no => rw [h1] at h; cases h
    | ok d S1 =>
      rw [h1, R.bind_ok] at h
      cases h2 : semL c r ρ S1 with
      | ex _ _ _ => rw [h2] at h; cases h
      | no => rw [h2] at h; cases h
      | ok ds S2 =>
        rw [h2, R.bind_ok] at h
        cases h
        rw [List.length_cons, semL_len h2]; rfl
theorem kw_names : ∀ {kws : List Keyword}, kws.all (fun k => k.arg.isSome) = true → (kws.filterMap (·.arg)).length = kws.length
  | [], _ => rfl
  | ⟨none, _, _⟩ :: _, h => by simp at h
  | ⟨some x, _, _⟩ :: kws, h => by
    rw [List.all_cons, Bool.and_eq_true] at h
    rw [List.filterMap_cons]
    simp [kw_names h.2]
end LH

namespace LH
open PySem PySem.W L2 PySem.Spec PyProof.Rows
def isBool : Expr → Bool
  | .BoolOp .. => true
  | _ => false
structure Res (tst : Bool) (X : Cx) (x : Expr) (m : Sem1 D) : Prop where
  e : OkE X x m
  t : tst = true → OkT X x m
  w : tst = true → isBool x = true → OkW X x m
theorem okT_bad {X : Cx} {x : Expr} : OkT X x (fun _ _ => .no) := ⟨fun pins s σ H Q I ⟨T, ρ, S, _, _, _, p⟩ => (show False from p).elim⟩
theorem okW_bad {X : Cx} {x : Expr} : OkW X x (fun _ _ => .no) := ⟨fun wh pins s σ H Q I ⟨T, ρ, S, _, _, _, p⟩ => (show False from p).elim⟩
theorem isNop_eq {e : E} (h : e.isNop = true) : e = .nop := by cases e <;> first | rfl | cases h
section
variable {X : Cx} {t : Bool} {x : Expr} {m m' : Sem1 D}
theorem Res.eq (h : Res t X x m) (e : ∀ ρ S, m' ρ S = m ρ S) : Res t X x m' := by
  have : m' = m := funext fun ρ => funext fun S => e ρ S
  rw [this]; exact h
theorem Res.plain (h : OkE X x m) (hp : plainT x = true) : Res t X x m := ⟨h, fun _ => okT_plain h hp, fun _ hb => by cases x <;> first | (cases hb; done) | (exact nomatch hp)⟩
theorem Res.test (h : OkE X x m) (h2 : OkT X x m) (hb : isBool x = false) : Res t X x m := ⟨h, fun _ => h2, fun _ z => by rw [hb] at z; cases z⟩
theorem okE_eq (h : OkE X x m) (e : ∀ ρ S, m' ρ S = m ρ S) : OkE X x m' := by
  have : m' = m := funext fun ρ => funext fun S => e ρ S
  rw [this]; exact h
theorem okL_eq {es : List Expr} {m m' : Sem1 (List D)} (h : OkL X es m) (e : ∀ ρ S, m' ρ S = m ρ S) : OkL X es m' := by
  have : m' = m := funext fun ρ => funext fun S => e ρ S
  rw [this]; exact h
theorem okK_eq {es : List Keyword} {m m' : Sem1 (List D)} (h : OkK X es m) (e : ∀ ρ S, m' ρ S = m ρ S) : OkK X es m' := by
  have : m' = m := funext fun ρ => funext fun S => e ρ S
  rw [this]; exact h
theorem okI_eq {tg it : Expr} {m m' : Sem1 Src} (h : OkI X tg it m) (e : ∀ ρ S, m' ρ S = m ρ S) : OkI X tg it m' := by
  have : m' = m := funext fun ρ => funext fun S => e ρ S
  rw [this]; exact h
theorem okS_eq {W : WX} {st : Stmt} {m m' : SemS} (h : OkS X W st m) (e : ∀ ρ S, m' ρ S = m ρ S) : OkS X W st m' := by
  have : m' = m := funext fun ρ => funext fun S => e ρ S
  rw [this]; exact h
theorem okX_eq {W : WX} {x : Expr} {m m' : Sem1 D} (h : OkX X W x m) (e : ∀ ρ S, m' ρ S = m ρ S) : OkX X W x m' := by
  have : m' = m := funext fun ρ => funext fun S => e ρ S
  rw [this]; exact h
theorem okB_eq {W : WX} {st : List Stmt} {m m' : SemS} (h : OkB X W st m) (e : ∀ ρ S, m' ρ S = m ρ S) : OkB X W st m' := by
  have : m' = m := funext fun ρ => funext fun S => e ρ S
  rw [this]; exact h
end
section
variable {X : Cx} {c : Nat → List D → Store → R D} {mc : MC}
theorem mGL_star : ∀ {g : G} {es : List Expr}, mGL mc g es = true → es.all notStar = true ∧ es.length = g.len
  | .nil, [], _ => ⟨rfl, rfl⟩
  | .nil, _ :: _, h => by simp [mGL] at h
  | .cons _ _, [], h => by simp [mGL] at h
  | .cons a r, x :: xs, h => by
    simp only [mGL, Bool.and_eq_true] at h
    obtain ⟨h1, h2⟩ := mGL_star h.2
    exact ⟨by rw [List.all_cons, h.1.1, h1]; rfl, by rw [List.length_cons, h2]; rfl⟩
  | .nm _, _, h => by simp [mGL] at h
  | .tp _, _, h => by simp [mGL] at h
mutual
theorem snd_G (g : Good X c mc) : ∀ (t : G) (x : Expr), mG mc t x = true → PG X x (gG X.K t)
  | .nm i, x, h => by
    simp only [mG] at h
    split at h
    · rename_i y p
      rw [Bool.and_eq_true] at h
      have hi := g.at (of_decide_eq_true h.1)
      have h2 := h.2
      split at h2
      · rename_i hl
        rw [← g.sc] at hl
        exact okG_nm g.nd hi (.inl hl) (.inr hl)
      · rename_i hl
        rw [← g.sc] at hl
        exact okG_nm g.nd hi (.inr hl) (.inl (by rw [g.fn]; exact h2))
      · cases h2
    · cases h
  | .tp r, x, h => by
    simp only [mG] at h
    split at h
    · rename_i es k p
      obtain ⟨h1, h2⟩ := mGL_star h
      exact okG_tp g.calm (snd_GL g r es h) (by rw [asg_len h1]; exact h2) (asg_find h1)
    · cases h
  | .nil, x, h => by simp [mG] at h
  | .cons _ _, x, h => by simp [mG] at h
theorem snd_GL (g : Good X c mc) : ∀ (t : G) (xs : List Expr), mGL mc t xs = true → PGs X xs (gL X.K t)
  | .nil, xs, h => by
    simp only [mGL, List.isEmpty_iff] at h
    subst h
    exact okG_nil
  | .cons a r, xs, h => by
    simp only [mGL] at h
    split at h
    · rename_i x ys
      simp only [Bool.and_eq_true] at h
      exact okG_cons (snd_G g a x h.1.2) (snd_GL g r ys h.2) (by rw [asg_cons h.1.1]; rfl)
    · cases h
  | .nm _, xs, h => by simp [mGL] at h
  | .tp _, xs, h => by simp [mGL] at h
end
theorem snd_Ty (g : Good X c mc) : ∀ {ts : List Ty} {xs : List Expr}, tyNames mc ts xs = true → TyNames X xs ts ∧ (∀ e ∈ xs, notStar e = true) ∧ (∀ t, ts = [t] → ∃ x, xs = [x] ∧ PE X x (tC (.ty t.name)))
  | [], [], _ => ⟨.nil, by simp, fun t e => by cases e⟩
  | [], _ :: _, h => by simp [tyNames] at h
  | t :: ts, [], h => by simp [tyNames] at h
  | t :: ts, x :: xs, h => by
    cases x with
    | Name y p =>
      simp only [tyNames, Bool.and_eq_true, decide_eq_true_eq] at h
      obtain ⟨⟨rfl, h1⟩, h2⟩ := h
      obtain ⟨i1, i2, i3⟩ := snd_Ty g h2
      have b := g.b h1
      have pe : PE X (.Name t.nm p) (tC (.ty t.name)) := pe_tyName b.1 b.2
      refine ⟨.cons pe i1, fun e he => ?_, fun u e => ?_⟩
      · rcases List.mem_cons.mp he with rfl | he
        · rfl
        · exact i2 e he
      · cases e
        cases i1
        exact ⟨_, rfl, pe⟩
    | _ => simp [tyNames] at h
end
def AllE (X : Cx) (c : Nat → List D → Store → R D) : EL → List Expr → Prop
  | .nil, _ => True
  | .cons e r, x :: xs => OkE X x (semE c e) ∧ AllE X c r xs
  | .cons _ _, [] => False
theorem semC_one {c : Nat → List D → Store → R D} (e : E) (ρ : Env) (S : Store) : semC c (.cons e .nil) ρ S = truthT (semE c e) ρ S := by
  simp only [semC]
  show _ = (semE c e ρ S).bind fun x S1 => R.opt (truthy S1 x) S1
  cases semE c e ρ S with
  | ok d S1 =>
    simp only [R.bind_ok]
    cases truthy S1 d with
    | none => rfl
    | some k => cases k <;> rfl
  | ex _ _ _ => rfl
  | no => rfl
theorem list_one {xs : List Expr} {x : Expr} (h : xs = [x]) (n : notStar x = true) (env : PySem.Env) : starEach [x] env = (false, eval x env) :: starEach [] env := star_cons n [] env
mutual
theorem snd_E (c : Nat → List D → Store → R D) : ∀ (e : E) {X : Cx} {mc : MC} (g : Good X c mc) (t : Bool) (x : Expr), mE t mc e x = true → Res t X x (semE c e)
  | .loc i, X, mc, g, t, x, h => by
    simp only [mE] at h
    split at h
    · simp only [Bool.and_eq_true, decide_eq_true_eq] at h
      have n := noDbg_1 h.2
      exact .plain (okE_loc (g.at h.1.1) (g.vis h.1.2) n.1 n.2) rfl
    · cases h
  | .cst k, X, mc, g, t, x, h => by
    simp only [mE] at h
    split at h
    · simp only [Bool.and_eq_true, decide_eq_true_eq] at h
      obtain ⟨rfl, h⟩ := h
      exact .plain (okE_cst h) rfl
    · cases h
  | .glb z k, X, mc, g, t, x, h => by
    simp only [mE] at h
    split at h
    · simp only [Bool.and_eq_true, decide_eq_true_eq] at h
      obtain ⟨⟨⟨rfl, h1⟩, h2⟩, h3⟩ := h
      exact .plain (okE_glb (g.gl h1) (g.cst _ _ h3) (noDbg_1 h2).1) rfl
    · cases h
  | .tup es, X, mc, g, t, x, h => by
    simp only [mE] at h
    split at h
    · exact .plain (okE_eq (okE_tup (snd_L c es g _ h)) fun ρ S => by simp only [semE]) rfl
    · cases h
  | .lst m es, X, mc, g, t, x, h => by
    simp only [mE] at h
    split at h
    · exact .plain (okE_eq (okE_lst (b := m) (snd_L c es g _ h)) fun ρ S => by simp only [semE]) rfl
    · cases h
  | .dct m u, X, mc, g, t, x, h => by
    simp only [mE] at h
    split at h
    · cases u
      · exact .plain (okE_dct (b := m)) rfl
      · exact .plain (okE_dctT (b := m)) rfl
    · cases h
  | .bin m op a b, X, mc, g, t, x, h => by
    simp only [mE] at h
    split at h
    · simp only [Bool.and_eq_true, decide_eq_true_eq] at h
      obtain ⟨⟨rfl, h1⟩, h2⟩ := h
      exact .plain (okE_eq (okE_bin (m := m) (snd_E c a g false _ h1).e (snd_E c b g false _ h2).e) fun ρ S => by simp only [semE]) rfl
    · cases h
  | .neg a, X, mc, g, t, x, h => by
    simp only [mE] at h
    split at h
    · exact .plain (okE_eq (okE_neg (snd_E c a g false _ h).e) fun ρ S => by simp only [semE] <;> rfl) rfl
    · cases h
  | .cmp op a b, X, mc, g, t, x, h => by
    simp only [mE] at h
    split at h
    · simp only [Bool.and_eq_true, decide_eq_true_eq, Bool.not_eq_true'] at h
      obtain ⟨⟨⟨rfl, h1⟩, h2⟩, h3⟩ := h
      have ha := (snd_E c a g false _ h1).e
      have hb := (snd_E c b g false _ h2).e
      exact .eq (.test (okE_cmp g.hu ha hb h3) (okT_cmp g.hu ha hb h3) rfl) fun ρ S => by simp only [semE]
    · cases h
  | .chain o1 o2 a b d, X, mc, g, t, x, h => by
    simp only [mE] at h
    split at h
    · simp only [Bool.and_eq_true, decide_eq_true_eq, Bool.not_eq_true'] at h
      obtain ⟨⟨⟨⟨⟨rfl, rfl⟩, h1⟩, h2⟩, h3⟩, h4⟩ := h
      have ha := (snd_E c a g false _ h1).e
      have hb := (snd_E c b g false _ h2).e
      have hd := (snd_E c d g false _ h3).e
      exact .eq (.test (okE_chain g.hu ha hb hd h4) (okT_chain g.hu ha hb hd h4) rfl) fun ρ S => by simp only [semE] <;> rfl
    · cases h
  | .not a, X, mc, g, t, x, h => by
    simp only [mE] at h
    split at h
    · have ha := snd_E c a g t _ h
      exact .eq ⟨okE_not ha.e, fun z => okT_not (ha.t z), fun _ hb => by cases hb⟩ fun ρ S => by simp only [semE]
    · cases h
  | .and a b, X, mc, g, t, x, h => by
    simp only [mE] at h
    split at h
    · rename_i y z r p
      rw [Bool.and_eq_true] at h
      have ha := snd_E c a g t _ h.1
      cases r with
      | nil =>
        have hb := snd_E c b g t _ (by simpa using h.2)
        exact .eq ⟨okE_and ha.e (pe_one hb.e), fun k => (okW_and (ha.t k) (okW_and1 (hb.t k))).pt, fun k _ => okW_and (ha.t k) (okW_and1 (hb.t k))⟩ fun ρ S => by simp only [semE] <;> rfl
      | cons w ws =>
        have hb := snd_E c b g t _ (by simpa using h.2)
        exact .eq ⟨okE_and ha.e hb.e, fun k => (okW_and (ha.t k) (hb.w k rfl)).pt, fun k _ => okW_and (ha.t k) (hb.w k rfl)⟩ fun ρ S => by simp only [semE] <;> rfl
    · cases h
  | .or a b, X, mc, g, t, x, h => by
    simp only [mE] at h
    split at h
    · rename_i y z r p
      rw [Bool.and_eq_true] at h
      have ha := snd_E c a g t _ h.1
      cases r with
      | nil =>
        have hb := snd_E c b g t _ (by simpa using h.2)
        exact .eq ⟨okE_or ha.e (pe_one hb.e), fun k => (okW_or (ha.t k) (okW_or1 (hb.t k))).pt, fun k _ => okW_or (ha.t k) (okW_or1 (hb.t k))⟩ fun ρ S => by simp only [semE] <;> rfl
      | cons w ws =>
        have hb := snd_E c b g t _ (by simpa using h.2)
        exact .eq ⟨okE_or ha.e hb.e, fun k => (okW_or (ha.t k) (hb.w k rfl)).pt, fun k _ => okW_or (ha.t k) (hb.w k rfl)⟩ fun ρ S => by simp only [semE] <;> rfl
    · cases h
  | .ite k a b, X, mc, g, t, x, h => by
    simp only [mE] at h
    split at h
    · simp only [Bool.and_eq_true, Bool.not_eq_true'] at h
      obtain ⟨⟨⟨rfl, h1⟩, h2⟩, h3⟩ := h
      exact Res.eq (t := false) ⟨okE_ite ((snd_E c k g true _ h1).t rfl) (snd_E c a g false _ h2).e (snd_E c b g false _ h3).e, fun z => Bool.noConfusion z, fun z => Bool.noConfusion z⟩ fun ρ S => by simp only [semE] <;> rfl
    · cases h
  | .ix a b, X, mc, g, t, x, h => by
    simp only [mE] at h
    split at h
    · simp only [Bool.and_eq_true] at h
      exact .plain (okE_eq (okE_ix g.hu1 (snd_E c a g false _ h.1.2).e (snd_E c b g false _ h.2).e (plainI_ix h.1.1)) fun ρ S => by simp only [semE]) rfl
    · cases h
  | .sl m a lo hi, X, mc, g, t, x, h => by
    simp only [mE] at h
    split at h
    · rename_i y l hh _ _
      simp only [Bool.and_eq_true] at h
      obtain ⟨⟨h1, h2⟩, h3⟩ := h
      have pl : PO X l (tPO X.K lo.isNop (semE c lo)) := by
        cases l with
        | none =>
          have h2 : lo.isNop = true := h2
          rw [h2, isNop_eq h2]
          exact okO_none fun ρ S => by simp only [semE]
        | some l =>
          simp only [Bool.and_eq_true, Bool.not_eq_true'] at h2
          rw [h2.1]
          exact okO_some (snd_E c lo g false _ h2.2).e
      have ph : PO X hh (tPO X.K hi.isNop (semE c hi)) := by
        cases hh with
        | none =>
          have h3 : hi.isNop = true := h3
          rw [h3, isNop_eq h3]
          exact okO_none fun ρ S => by simp only [semE]
        | some l =>
          simp only [Bool.and_eq_true, Bool.not_eq_true'] at h3
          rw [h3.1]
          exact okO_some (snd_E c hi g false _ h3.2).e
      exact .plain (okE_eq (okE_sl (b1 := m) (snd_E c a g false _ h1).e pl ph) fun ρ S => by simp only [semE] <;> rfl) rfl
    · cases h
  | .slr m a, X, mc, g, t, x, h => by
    simp only [mE] at h
    split at h
    · exact .plain (okE_eq (okE_slr (b1 := m) (snd_E c a g false _ h).e) fun ρ S => by simp only [semE] <;> rfl) rfl
    · cases h
  | .nop, X, mc, g, t, x, h => by simp [mE] at h
  | .bad, X, mc, g, t, x, h => by
    have e : semE c .bad = fun _ _ => .no := funext fun ρ => funext fun S => by simp only [semE]
    rw [e]
    exact ⟨⟨fun pins s σ H Q I ⟨T, ρ, S, _, _, _, p⟩ => (show False from p).elim⟩, fun _ => okT_bad, fun _ _ => okW_bad⟩
  | .fnv z, X, mc, g, t, x, h => by
    simp only [mE] at h
    split at h
    · simp only [Bool.and_eq_true, decide_eq_true_eq] at h
      obtain ⟨⟨⟨rfl, h1⟩, h2⟩, h3⟩ := h
      obtain ⟨i, hi⟩ := Option.isSome_iff_exists.mp h3
      obtain ⟨fa, fd, ps, k, F, hr, hm, hk, hb, _, har, hn⟩ := (g.fns _ _ hi).ex
      exact .plain (okE_eq (okE_fnv (g.gl h1) hm hn (noDbg_1 h2).1) fun ρ S => by simp only [semE]) rfl
    · cases h
  | .cv tab e es, X, mc, g, t, x, h => by
    simp only [mE] at h
    split at h
    · rename_i ce z xs p
      simp only [Bool.and_eq_true] at h
      obtain ⟨⟨⟨h1, h2⟩, h3⟩, h4⟩ := h
      have hst := mL_star h3
      rw [List.all_cons, Bool.and_eq_true] at hst
      exact .plain (okE_eq (okE_cv g.hg h1 (g.fv h4) (snd_E c e g false _ h2).e (snd_L c es g _ h3) (star_cons hst.1 _ _) (star_any hst.2)) fun ρ S => by simp only [semE] <;> rfl) (by cases ce <;> first | rfl | cases h1)
    · cases h
  | .val e, X, mc, g, t, x, h => by
    simp only [mE] at h
    split at h
    · simp only [Bool.and_eq_true, decide_eq_true_eq] at h
      obtain ⟨⟨rfl, h1⟩, h2⟩ := h
      exact .plain (okE_eq (okE_val (snd_E c e g false _ h2).e (base_of h1 _ _)) fun ρ S => by simp only [semE] <;> rfl) rfl
    · cases h
  | .isx e k, X, mc, g, t, x, h => by
    simp only [mE] at h
    split at h
    · rename_i y q z w wp p
      simp only [Bool.and_eq_true, decide_eq_true_eq] at h
      obtain ⟨⟨⟨⟨rfl, h1⟩, h2⟩, h3⟩, h4⟩ := h
      have b1 := g.b h1
      have he := (snd_E c e g false _ h3).e
      have go : ∀ {cv : V} {cu : Value}, IsC X (.Name w wp) k cv cu → Res t X (.Call (.Name "isinstance" q) [z, .Name w wp] [] p) (semE c (.isx e k)) := fun hc =>
        .plain (okE_eq (okE_isx he hc b1.1 b1.2 (star_cons h2 _ _) (star_cons rfl _ _)) fun ρ S => by simp only [semE]) rfl
      cases k with
      | none =>
        simp only [Bool.and_eq_true, decide_eq_true_eq] at h4
        obtain ⟨rfl, h4⟩ := h4
        have b2 := g.b h4
        exact go (.val b2.1 b2.2)
      | some j =>
        simp only [Bool.and_eq_true, decide_eq_true_eq] at h4
        obtain ⟨⟨⟨⟨rfl, h5⟩, h6⟩, h7⟩, h8⟩ := h4
        by_cases hj : j = 0
        · subst hj
          obtain ⟨D0, xt, hm⟩ := g.x.top h7
          exact go (.top rfl (g.gl h5) hm xt (noDbg_1 h6).1)
        · obtain ⟨D0, fI, C, _, _, xk, hm⟩ := g.x.own j h8 hj
          exact go (.own rfl hj (g.gl h5) hm xk (noDbg_1 h6).1)
    · cases h
  | .call f es, X, mc, g, t, x, h => by
    simp only [mE] at h
    split at h
    · rename_i y q xs p
      simp only [Bool.and_eq_true, decide_eq_true_eq] at h
      obtain ⟨⟨⟨h1, h2⟩, h3⟩, h4⟩ := h
      obtain ⟨fa, fd, ps, k, F, hr, hm, hk, hb, _, har, _⟩ := (g.fns _ _ h1).ex
      have hl := snd_L c es g _ h4
      have hst := mL_star h4
      cases xs with
      | nil =>
        cases es with
        | nil => exact .plain (okE_eq (okE_call0 F hr g.hg (g.gl h2) hm hk hb (noDbg_1 h3).1 har) fun ρ S => by simp only [semE, semL]) rfl
        | cons _ _ => simp [mL] at h4
      | cons z zs =>
        rw [List.all_cons, Bool.and_eq_true] at hst
        exact .plain (okE_eq (okE_call F hr g.hg (g.gl h2) hm hk hb hl (noDbg_1 h3).1 (star_cons hst.1 _ _) (star_any hst.2) har) fun ρ S => by simp only [semE]) rfl
    · cases h
  | .callC f es, X, mc, g, t, x, h => by
    simp only [mE] at h
    split at h
    · rename_i y q z zs p
      simp only [Bool.and_eq_true, decide_eq_true_eq] at h
      obtain ⟨⟨⟨h1, h2⟩, h3⟩, h4⟩ := h
      obtain ⟨fa, fd, ps, k, F, hr, hm, hk, hb, _, har, _⟩ := (g.fns _ _ h1).ex
      have hl := snd_L c es g _ h4
      have hst := mL_star h4
      rw [List.all_cons, Bool.and_eq_true] at hst
      exact .plain (okE_eq (okE_callC F hr g.hg (g.gl h2) hm hk hb hl (noDbg_1 h3).1 (star_cons hst.1 _ _) (star_any hst.2) har) fun ρ S => by simp only [semE] <;> rfl) rfl
    · cases h
  | .callk f es ks p, X, mc, g, t, x, h => by
    simp only [mE] at h
    split at h
    · rename_i y q xs kws pos
      simp only [Bool.and_eq_true, decide_eq_true_eq] at h
      obtain ⟨⟨⟨⟨⟨⟨h1, h2⟩, h3⟩, h4⟩, h5⟩, h6⟩, h7⟩ := h
      obtain ⟨fa, fd, ps, k, F, hr, hm, hk, _, hkw, har, _⟩ := (g.fns _ _ h1).ex
      have hb := hkw _ _ _ h7
      have hl := snd_L c es g _ h4
      have hst := mL_star h4
      have hkk := snd_K c ks g _ h5
      have hll := mL_len h4
      have hn : ∀ ρ S ds S', semL c es ρ S = .ok ds S' → ds.length = xs.length := fun ρ S ds S' e => by rw [hll]; exact semL_len e
      have hn2 : ∀ ρ S ds S', semL c ks ρ S = .ok ds S' → ds.length = (kws.filterMap (·.arg)).length := fun ρ S ds S' e => by rw [kw_names h6, mK_len h5]; exact semL_len e
      obtain ⟨k1, k2, k3⟩ := kw_all (pos := pos) (env := X.env) h6
      cases xs with
      | nil =>
        cases es with
        | nil => exact .plain (okE_eq (okE_kw (okX_callk0 F hr g.hg L2.takes0 (g.gl h2) hm hk hb hkk (noDbg_1 h3).1 k1 k3 (by rw [k2]; rfl) hn2 har)) fun ρ S => by simp only [semE, semL] <;> rfl) rfl
        | cons _ _ => simp [mL] at h4
      | cons z zs =>
        have hst' := hst
        rw [List.all_cons, Bool.and_eq_true] at hst
        exact .plain (okE_eq (okE_kw (okX_callk F hr g.hg L2.takes0 (g.gl h2) hm hk hb hl hkk (noDbg_1 h3).1 (star_cons hst.1 _ _) k1 k3 (by rw [star_any hst', k2]; rfl) hn hn2 har)) fun ρ S => by simp only [semE] <;> rfl) rfl
    · cases h
  | .bi m b es, X, mc, g, t, x, h => by
    simp only [mE] at h
    split at h
    · simp only [Bool.and_eq_true, decide_eq_true_eq] at h
      obtain ⟨⟨rfl, h1⟩, h2⟩ := h
      have bb := g.b h1
      exact .plain (okE_eq (okE_bi (m := m) (cb_of g.calm g.hg g.hu g.sys m b) bb.1 bb.2 (snd_L c es g _ h2) (mL_star h2)) fun ρ S => by simp only [semE]) rfl
    · cases h
  | .lrng1 m a, X, mc, g, t, x, h => by
    simp only [mE] at h
    split at h
    · simp only [Bool.and_eq_true, decide_eq_true_eq] at h
      obtain ⟨⟨⟨⟨⟨rfl, h1⟩, rfl⟩, h2⟩, h3⟩, h4⟩ := h
      have b1 := g.b h1
      have b2 := g.b h2
      exact .plain (okE_eq (okE_lrng1 (m := m) g.calm b1.1 b1.2 b2.1 b2.2 (snd_E c a g false _ h4).e (star_cons h3 _ _)) fun ρ S => by simp only [semE] <;> rfl) rfl
    · cases h
  | .sst m a, X, mc, g, t, x, h => by
    simp only [mE] at h
    split at h
    · simp only [Bool.and_eq_true, decide_eq_true_eq] at h
      obtain ⟨⟨⟨⟨⟨rfl, rfl⟩, h1⟩, h2⟩, h3⟩, h4⟩ := h
      have b1 := g.b h1
      have b2 := g.b h2
      exact .plain (okE_eq (okE_sst (m := m) g.calm b1.1 b1.2 b2.1 b2.2 (snd_E c a g false _ h4).e (star_cons h3 _ _)) fun ρ S => by simp only [semE] <;> rfl) rfl
    · cases h
  | .lset a, X, mc, g, t, x, h => by
    simp only [mE] at h
    split at h
    · simp only [Bool.and_eq_true, decide_eq_true_eq] at h
      obtain ⟨⟨⟨⟨⟨rfl, rfl⟩, h1⟩, h2⟩, h3⟩, h4⟩ := h
      have b1 := g.b h1
      have b2 := g.b h2
      exact .plain (okE_eq (okE_lset g.calm b1.1 b1.2 b2.1 b2.2 (snd_E c a g false _ h4).e (star_cons h3 _ _)) fun ρ S => by simp only [semE] <;> rfl) rfl
    · cases h
  | .lrng2 m a b, X, mc, g, t, x, h => by
    simp only [mE] at h
    split at h
    · simp only [Bool.and_eq_true, decide_eq_true_eq] at h
      obtain ⟨⟨⟨⟨⟨⟨⟨rfl, h1⟩, rfl⟩, h2⟩, h3⟩, h3'⟩, h4⟩, h5⟩ := h
      have b1 := g.b h1
      have b2 := g.b h2
      exact .plain (okE_eq (okE_lrng2 (m := m) g.calm b1.1 b1.2 b2.1 b2.2 (snd_E c a g false _ h4).e (snd_E c b g false _ h5).e (star_cons h3 _ _) (star_cons h3' _ _)) fun ρ S => by simp only [semE] <;> rfl) rfl
    · cases h
  | .isi a ts one, X, mc, g, t, x, h => by
    simp only [mE] at h
    split at h
    · rename_i y q z w p
      simp only [Bool.and_eq_true, decide_eq_true_eq] at h
      obtain ⟨⟨⟨⟨⟨rfl, h1⟩, h2⟩, h3⟩, h5⟩, h4⟩ := h
      have b1 := g.b h1
      have ha := (snd_E c a g false _ h3).e
      cases one with
      | true =>
        rw [if_pos rfl] at h4
        obtain ⟨i1, i2, i3⟩ := snd_Ty g h4
        cases ts with
        | nil => simp [tyNames] at h4
        | cons u us =>
          cases us with
          | cons _ _ =>
            cases w <;> simp [tyNames] at h4
          | nil =>
            obtain ⟨x', e, pe⟩ := i3 u rfl
            cases e
            exact .plain (okE_eq (okE_isi1 b1.1 b1.2 ha pe (star_cons h2 _ _) (star_cons (i2 _ List.mem_cons_self) _ _)) fun ρ S => by simp only [semE]) rfl
      | false =>
        simp only [Bool.false_eq_true, if_false] at h4
        split at h4
        · obtain ⟨i1, i2, i3⟩ := snd_Ty g h4
          exact .plain (okE_eq (okE_isiT b1.1 b1.2 ha i1 (star_cons h2 _ _) (fun e he r => star_cons (i2 e he) _ _) (Nat.le_trans h5 (by decide))) fun ρ S => by simp only [semE]) rfl
        · cases h4
    · cases h
  | .me m k a es, X, mc, g, t, x, h => by
    simp only [mE] at h
    split at h
    · rename_i o nm apos q xs pos
      simp only [Bool.and_eq_true] at h
      obtain ⟨⟨⟨⟨h1, h2⟩, h3⟩, h4⟩, h5⟩ := h
      have ho := (snd_E c a g false _ h1).e
      have hL := snd_All c es g _ h4
      have hst := mL_star h4
      split at h5
      · rename_i y
        have h5 := of_decide_eq_true h5
        subst h5
        match es, h4, hL with
        | .cons e .nil, h4, hL =>
          simp only [List.all_cons, Bool.and_eq_true] at hst
          exact .plain (okE_eq (okE_append (m := m) ho hL.1 h2 h3 (star_cons hst.1 _ _)) fun ρ S => by simp only [semE, semL]) rfl
        | .nil, h4, hL => simp [mL] at h4
        | .cons e (.cons _ _), h4, hL => simp [mL] at h4
      · rename_i y z
        have h5 := of_decide_eq_true h5
        subst h5
        match es, h4, hL with
        | .cons e (.cons e2 .nil), h4, hL =>
          simp only [List.all_cons, Bool.and_eq_true] at hst
          exact .plain (okE_eq (okE_insert (m := m) ho hL.1 hL.2.1 h2 h3 (star_cons hst.1 _ _) (star_cons hst.2.1 _ _)) fun ρ S => by simp only [semE, semL]) rfl
        | .nil, h4, hL => simp [mL] at h4
        | .cons e .nil, h4, hL => simp [mL] at h4
        | .cons e (.cons _ (.cons _ _)), h4, hL => simp [mL] at h4
      · have h5 := of_decide_eq_true h5
        subst h5
        match es, h4 with
        | .nil, h4 => exact .plain (okE_eq (okE_pop0 (m := m) ho h2 h3) fun ρ S => by simp only [semE, semL]) rfl
        | .cons _ _, h4 => simp [mL] at h4
      · rename_i y
        have h5 := of_decide_eq_true h5
        subst h5
        match es, h4, hL with
        | .cons e .nil, h4, hL =>
          simp only [List.all_cons, Bool.and_eq_true] at hst
          exact .plain (okE_eq (okE_pop1 (m := m) ho hL.1 h2 h3 (star_cons hst.1 _ _)) fun ρ S => by simp only [semE, semL]) rfl
        | .nil, h4, hL => simp [mL] at h4
        | .cons e (.cons _ _), h4, hL => simp [mL] at h4
      · rename_i y z
        have h5 := of_decide_eq_true h5
        subst h5
        match es, h4, hL with
        | .cons e (.cons e2 .nil), h4, hL =>
          simp only [List.all_cons, Bool.and_eq_true] at hst
          exact .plain (okE_eq (okE_get (m := m) g.hu1 ho hL.1 hL.2.1 h2 h3 (star_cons hst.1 _ _) (star_cons hst.2.1 _ _)) fun ρ S => by simp only [semE, semL]) rfl
        | .nil, h4, hL => simp [mL] at h4
        | .cons e .nil, h4, hL => simp [mL] at h4
        | .cons e (.cons _ (.cons _ _)), h4, hL => simp [mL] at h4
      · have h5 := of_decide_eq_true h5
        subst h5
        match es, h4 with
        | .nil, h4 => exact .plain (okE_eq (okE_bits (m := m) ho h2 h3) fun ρ S => by simp only [semE, semL]) rfl
        | .cons _ _, h4 => simp [mL] at h4
      · rename_i y
        have h5 := of_decide_eq_true h5
        subst h5
        match es, h4, hL with
        | .cons e .nil, h4, hL =>
          simp only [List.all_cons, Bool.and_eq_true] at hst
          exact .plain (okE_eq (okE_count (m := m) ho hL.1 h2 h3 (star_cons hst.1 _ _)) fun ρ S => by simp only [semE, semL]) rfl
        | .nil, h4, hL => simp [mL] at h4
        | .cons e (.cons _ _), h4, hL => simp [mL] at h4
      · rename_i y
        have h5 := of_decide_eq_true h5
        subst h5
        match es, h4, hL with
        | .cons e .nil, h4, hL =>
          simp only [List.all_cons, Bool.and_eq_true] at hst
          exact .plain (okE_eq (okE_index (m := m) g.hu ho hL.1 h2 h3 (star_cons hst.1 _ _)) fun ρ S => by simp only [semE, semL]) rfl
        | .nil, h4, hL => simp [mL] at h4
        | .cons e (.cons _ _), h4, hL => simp [mL] at h4
      · rename_i y
        have h5 := of_decide_eq_true h5
        subst h5
        match es, h4, hL with
        | .cons e .nil, h4, hL =>
          simp only [List.all_cons, Bool.and_eq_true] at hst
          exact .plain (okE_eq (okE_join (m := m) ho hL.1 h2 h3 (star_cons hst.1 _ _)) fun ρ S => by simp only [semE, semL]) rfl
        | .nil, h4, hL => simp [mL] at h4
        | .cons e (.cons _ _), h4, hL => simp [mL] at h4
      · cases h5
    · cases h
  | .lc m own elt g' it cs, X, mc, g, t, x, h => by
    simp only [mE] at h
    split at h
    · rename_i y tg iter ifs scope p
      simp only [Bool.and_eq_true] at h
      obtain ⟨⟨⟨⟨⟨⟨h1, h2⟩, h3⟩, h4⟩, h5⟩, h6⟩, h7⟩ := h
      have bo := blkOk_by h3
      refine .plain (okE_eq (okE_lc (b := m) g.calm g.nd (snd_I c it g tg iter h1) (by rw [g.N, g.sc]; exact bo) (fun i hi => ?_) (fun s H C cl fp => snd_G (g.blk bo.kind) g' tg h5) (fun s H C cl fp => snd_C c cs (g.blk bo.kind) ifs h6) (fun s H C cl fp => (snd_E c elt (g.blk bo.kind) false y h7).e) (fun x => notSet_pure h2 _ x)) fun ρ S => by simp only [semE]) rfl
      exact of_decide_eq_true (List.all_eq_true.mp h4 i hi)
    · cases h
  | .lc2 m own elt g' it cs g1 it1 cs1, X, mc, g, t, x, h => by
    simp only [mE] at h
    split at h
    · rename_i y tg iter ifs tg1 iter1 ifs1 scope p
      simp only [Bool.and_eq_true] at h
      obtain ⟨⟨⟨⟨⟨⟨⟨⟨⟨⟨⟨h1, h2⟩, h3⟩, h4⟩, h5⟩, h6⟩, h7⟩, h8⟩, h9⟩, h10⟩, h11⟩, h12⟩ := h
      have bo := blkOk_by h3
      refine .plain (okE_eq (okE_lc2 (b := m) g.calm g.nd (snd_I c it g tg iter h1) (by rw [g.N, g.sc]; exact bo) (fun i hi => of_decide_eq_true (List.all_eq_true.mp h4 i hi)) (fun i hi => of_decide_eq_true (List.all_eq_true.mp h9 i hi)) (fun s H C cl fp => snd_G (g.blk bo.kind) g' tg h5) (fun s H C cl fp => snd_C c cs (g.blk bo.kind) ifs h6)
        (fun s H C cl fp => snd_I c it1 (g.blk bo.kind) tg1 iter1 h10) (fun s H C cl fp => snd_G (g.blk bo.kind) g1 tg1 h11) (fun s H C cl fp => snd_C c cs1 (g.blk bo.kind) ifs1 h12) (fun s H C cl fp => (snd_E c elt (g.blk bo.kind) false y h7).e) (fun x => notSet_pure h2 _ x) (fun env x => notSet_pure h8 env x)) fun ρ S => by simp only [semE]) rfl
    · cases h
  | .dc m own ke ve g' it cs, X, mc, g, t, x, h => by
    simp only [mE] at h
    split at h
    · rename_i kx vx tg iter ifs scope p
      simp only [Bool.and_eq_true] at h
      obtain ⟨⟨⟨⟨⟨⟨⟨h1, h2⟩, h3⟩, h4⟩, h5⟩, h6⟩, h7⟩, h8⟩ := h
      have bo := blkOk_by h3
      refine .plain (okE_eq (okE_dc (b := m) g.calm g.nd (snd_I c it g tg iter h1) (by rw [g.N, g.sc]; exact bo) (fun i hi => of_decide_eq_true (List.all_eq_true.mp h4 i hi)) (fun s H C cl fp => snd_G (g.blk bo.kind) g' tg h5) (fun s H C cl fp => snd_C c cs (g.blk bo.kind) ifs h6) (fun s H C cl fp => (snd_E c ke (g.blk bo.kind) false kx h7).e) (fun s H C cl fp => (snd_E c ve (g.blk bo.kind) false vx h8).e) (fun x => notSet_pure h2 _ x)) fun ρ S => by simp only [semE]) rfl
    · cases h
  | .dd m es, X, mc, g, t, x, h => by
    simp only [mE] at h
    split at h
    · rename_i keys values p
      simp only [Bool.and_eq_true] at h
      obtain ⟨⟨⟨⟨h1, h2⟩, h3⟩, h4⟩, h5⟩ := h
      exact .plain (okE_eq (okE_dd (b := m) (snd_P c es g keys values h1) h2 (of_decide_eq_true h3) (fun e => by rw [e] at h4; cases h4) (of_decide_eq_true h5)) fun ρ S => by (first | (simp only [semE]; done) | (simp only [semE]; rfl))) rfl
    · cases h
  | .ddt m es, X, mc, g, t, x, h => by
    simp only [mE] at h
    split at h
    · rename_i keys values p
      simp only [Bool.and_eq_true] at h
      obtain ⟨⟨⟨⟨h1, h2⟩, h3⟩, h4⟩, h5⟩ := h
      exact .plain (okE_eq (okE_ddt (b := m) g.hu (snd_P c es g keys values h1) h2 (of_decide_eq_true h3) (fun e => by rw [e] at h4; cases h4) (of_decide_eq_true h5)) fun ρ S => by (first | (simp only [semE]; done) | (simp only [semE]; rfl))) rfl
    · cases h
theorem snd_P (c : Nat → List D → Store → R D) {pos : Pos} : ∀ (es : EL) {X : Cx} {mc : MC} (g : Good X c mc) (ks : List (Option Expr)) (vs : List Expr), mP mc es ks vs = true → OkPP X pos ks vs (semL c es)
  | .nil, X, mc, g, ks, vs, h => by
    simp only [mP, Bool.and_eq_true, List.isEmpty_iff] at h
    obtain ⟨rfl, rfl⟩ := h
    exact okPP_eq okPP_nil fun ρ S => by simp only [semL]
  | .cons k (.cons v r), X, mc, g, ks, vs, h => by
    simp only [mP] at h
    split at h
    · simp only [Bool.and_eq_true] at h
      exact okPP_eq (okPP_cons (snd_E c k g false _ h.1.1).e (snd_E c v g false _ h.1.2).e (snd_P c r g _ _ h.2)) fun ρ S => by simp only [semL, R.bind_assoc, R.bind_ok]
    · cases h
  | .cons k .nil, X, mc, g, ks, vs, h => by simp [mP] at h
theorem snd_L (c : Nat → List D → Store → R D) : ∀ (es : EL) {X : Cx} {mc : MC} (g : Good X c mc) (xs : List Expr), mL mc es xs = true → OkL X xs (semL c es)
  | .nil, X, mc, g, xs, h => by
    simp only [mL, List.isEmpty_iff] at h
    subst h
    exact okL_eq okL_nil fun ρ S => by simp only [semL]
  | .cons e r, X, mc, g, xs, h => by
    simp only [mL] at h
    split at h
    · simp only [Bool.and_eq_true] at h
      exact okL_eq (okL_cons (snd_E c e g false _ h.1.2).e (snd_L c r g _ h.2) (star_cons h.1.1 _ _)) fun ρ S => by simp only [semL]
    · cases h
theorem snd_K (c : Nat → List D → Store → R D) : ∀ (es : EL) {X : Cx} {mc : MC} (g : Good X c mc) (xs : List Keyword), mK mc es xs = true → OkK X xs (semL c es)
  | .nil, X, mc, g, xs, h => by
    simp only [mK, List.isEmpty_iff] at h
    subst h
    exact okK_eq okK_nil fun ρ S => by simp only [semL]
  | .cons e r, X, mc, g, xs, h => by
    simp only [mK] at h
    split at h
    · simp only [Bool.and_eq_true] at h
      exact okK_eq (okK_cons (snd_E c e g false _ h.1).e (snd_K c r g _ h.2)) fun ρ S => by simp only [semL]
    · cases h
theorem snd_All (c : Nat → List D → Store → R D) : ∀ (es : EL) {X : Cx} {mc : MC} (g : Good X c mc) (xs : List Expr), mL mc es xs = true → AllE X c es xs
  | .nil, X, mc, g, xs, h => by
    simp only [mL, List.isEmpty_iff] at h
    subst h
    trivial
  | .cons e r, X, mc, g, xs, h => by
    simp only [mL] at h
    split at h
    · simp only [Bool.and_eq_true] at h
      exact ⟨(snd_E c e g false _ h.1.2).e, snd_All c r g _ h.2⟩
    · cases h
theorem snd_C (c : Nat → List D → Store → R D) : ∀ (es : EL) {X : Cx} {mc : MC} (g : Good X c mc) (xs : List Expr), mC mc es xs = true → PTs X xs (tB' X.K (semC c es))
  | .nil, X, mc, g, xs, h => by
    simp only [mC, List.isEmpty_iff] at h
    subst h
    refine ⟨fun pins s σ H Q I q => pts_nil.run pins s σ H Q I ?_⟩
    obtain ⟨T, ρ, S, rfl, so, re, p⟩ := q
    simp only [semC] at p
    exact p.now so
  | .cons e r, X, mc, g, xs, h => by
    simp only [mC] at h
    split at h
    · have := pts_one ((snd_E c e g true _ h).t rfl)
      have e' : semC c (.cons e .nil) = truthT (semE c e) := funext fun ρ => funext fun S => semC_one e ρ S
      rw [e']
      exact this
    · cases h
theorem snd_I (c : Nat → List D → Store → R D) : ∀ (it : I) {X : Cx} {mc : MC} (g : Good X c mc) (tg x : Expr), mI mc it tg x = true → OkI X tg x (semI c it)
  | .it e, X, mc, g, tg, x, h => by
    simp only [mI] at h
    exact okI_eq (okI_it (snd_E c e g false _ h).e) fun ρ S => by simp only [semI]
  | .rng1 a, X, mc, g, tg, x, h => by
    simp only [mI] at h
    split at h
    · simp only [Bool.and_eq_true, decide_eq_true_eq] at h
      obtain ⟨⟨⟨rfl, h1⟩, h2⟩, h3⟩ := h
      have b := g.b h1
      refine okI_eq (okI_rng1 b.1 b.2 (okL_cons (snd_E c a g false _ h3).e okL_nil (star_cons h2 _ _)) (star_cons h2 _ _)) fun ρ S => ?_
      simp only [semI]
      cases semE c a ρ S with
      | ok d S1 => cases d <;> rfl
      | ex _ _ _ => rfl
      | no => rfl
    · cases h
  | .rng2 a b, X, mc, g, tg, x, h => by
    simp only [mI] at h
    split at h
    · simp only [Bool.and_eq_true, decide_eq_true_eq] at h
      obtain ⟨⟨⟨⟨⟨rfl, h1⟩, h2⟩, h2'⟩, h3⟩, h4⟩ := h
      have bb := g.b h1
      refine okI_eq (okI_rng2 bb.1 bb.2 (okL_cons (snd_E c a g false _ h3).e (okL_cons (snd_E c b g false _ h4).e okL_nil (star_cons h2' _ _)) (star_cons h2 _ _)) (by rw [star_cons h2, star_cons h2']; rfl) (star_cons h2' _ _)) fun ρ S => ?_
      simp only [semI]
      cases h1 : semE c a ρ S with
      | ok d S1 =>
        simp only [R.bind_ok]
        cases h2 : semE c b ρ S1 with
        | ok d2 S2 => cases d <;> cases d2 <;> rfl
        | ex _ _ _ => rfl
        | no => rfl
      | ex _ _ _ => rfl
      | no => rfl
    · cases h
  | .enum a, X, mc, g, tg, x, h => by
    simp only [mI] at h
    split at h
    · simp only [Bool.and_eq_true, decide_eq_true_eq] at h
      obtain ⟨⟨⟨rfl, h1⟩, h2⟩, h3⟩ := h
      have b := g.b h1
      refine okI_eq (okI_enum b.1 b.2 (okL_cons (snd_E c a g false _ h3).e okL_nil (star_cons h2 _ _)) (star_cons h2 _ _)) fun ρ S => ?_
      simp only [semI]
      cases semE c a ρ S with
      | ok d S1 => cases d <;> rfl
      | ex _ _ _ => rfl
      | no => rfl
    · cases h
  | .revr a, X, mc, g, tg, x, h => by
    simp only [mI] at h
    split at h
    · simp only [Bool.and_eq_true, decide_eq_true_eq] at h
      obtain ⟨⟨⟨⟨⟨rfl, h1⟩, rfl⟩, h2⟩, h3⟩, h4⟩ := h
      have b1 := g.b h1
      have b2 := g.b h2
      exact okI_eq (okI_revr b1.1 b1.2 b2.1 b2.2 (snd_E c a g false _ h4).e (star_cons h3 _ _)) fun ρ S => by simp only [semI] <;> rfl
    · cases h
  | .zip a b, X, mc, g, tg, x, h => by
    simp only [mI] at h
    split at h
    · simp only [Bool.and_eq_true, decide_eq_true_eq] at h
      obtain ⟨⟨⟨⟨⟨rfl, h1⟩, h2⟩, h2'⟩, h3⟩, h4⟩ := h
      have bb := g.b h1
      refine okI_eq (okI_zip bb.1 bb.2 (okL_cons (snd_E c a g false _ h3).e (okL_cons (snd_E c b g false _ h4).e okL_nil (star_cons h2' _ _)) (star_cons h2 _ _)) (star_cons h2 _ _) (by rw [star_cons h2']; rfl)) fun ρ S => ?_
      simp only [semI]
      cases h1 : semE c a ρ S with
      | ok d S1 =>
        simp only [R.bind_ok]
        cases h2 : semE c b ρ S1 with
        | ok d2 S2 => cases d <;> cases d2 <;> rfl
        | ex _ _ _ => rfl
        | no => rfl
      | ex _ _ _ => rfl
      | no => rfl
    · cases h
  | .rng3 _ _ _, X, mc, g, tg, x, h => by simp [mI] at h
  | .rev _, X, mc, g, tg, x, h => by simp [mI] at h
  | .items a, X, mc, g, tg, x, h => by
    simp only [mI] at h
    split at h
    · simp only [Bool.and_eq_true, decide_eq_true_eq] at h
      obtain ⟨⟨⟨rfl, h1⟩, h2⟩, h3⟩ := h
      exact okI_eq (okI_items (snd_E c a g false _ h3).e (base_of h1 _ _) h2) fun ρ S => by simp only [semI]
    · cases h
  | .values a, X, mc, g, tg, x, h => by
    simp only [mI] at h
    split at h
    · simp only [Bool.and_eq_true, decide_eq_true_eq] at h
      obtain ⟨⟨⟨rfl, h1⟩, h2⟩, h3⟩ := h
      exact okI_eq (okI_values (snd_E c a g false _ h3).e (base_of h1 _ _) h2) fun ρ S => by simp only [semI]
    · cases h
/-- what an exception may leave -/
theorem snd_X {W : WX} (tk : L2.Takes X W) (g : Good X c mc) : ∀ (e : E) (x : Expr), e.isX = true → mE false mc e x = true → OkX X W x (semX c e)
  | .call f es, x, _, h => by
    simp only [mE] at h
    split at h
    · rename_i y q xs p
      simp only [Bool.and_eq_true, decide_eq_true_eq] at h
      obtain ⟨⟨⟨h1, h2⟩, h3⟩, h4⟩ := h
      obtain ⟨fa, fd, ps, k, F, hr, hm, hk, hb, _, har, _⟩ := (g.fns _ _ h1).ex
      have hl := snd_L c es g _ h4
      have hst := mL_star h4
      cases xs with
      | nil =>
        cases es with
        | nil => exact okX_eq (okX_call0 F hr g.hg tk (g.gl h2) hm hk hb (noDbg_1 h3).1 har) fun ρ S => by simp only [semX, semL]
        | cons _ _ => simp [mL] at h4
      | cons z zs =>
        rw [List.all_cons, Bool.and_eq_true] at hst
        exact okX_eq (okX_call F hr g.hg tk (g.gl h2) hm hk hb hl (noDbg_1 h3).1 (star_cons hst.1 _ _) (star_any hst.2) har) fun ρ S => by simp only [semX]
    · cases h
  | .callk f es ks p, x, _, h => by
    simp only [mE] at h
    split at h
    · rename_i y q xs kws pos
      simp only [Bool.and_eq_true, decide_eq_true_eq] at h
      obtain ⟨⟨⟨⟨⟨⟨h1, h2⟩, h3⟩, h4⟩, h5⟩, h6⟩, h7⟩ := h
      obtain ⟨fa, fd, ps, k, F, hr, hm, hk, _, hkw, har, _⟩ := (g.fns _ _ h1).ex
      have hb := hkw _ _ _ h7
      have hl := snd_L c es g _ h4
      have hst := mL_star h4
      have hkk := snd_K c ks g _ h5
      have hll := mL_len h4
      have hn : ∀ ρ S ds S', semL c es ρ S = .ok ds S' → ds.length = xs.length := fun ρ S ds S' e => by rw [hll]; exact semL_len e
      have hn2 : ∀ ρ S ds S', semL c ks ρ S = .ok ds S' → ds.length = (kws.filterMap (·.arg)).length := fun ρ S ds S' e => by rw [kw_names h6, mK_len h5]; exact semL_len e
      obtain ⟨k1, k2, k3⟩ := kw_all (pos := pos) (env := X.env) h6
      cases xs with
      | nil =>
        cases es with
        | nil => exact okX_eq (okX_callk0 F hr g.hg tk (g.gl h2) hm hk hb hkk (noDbg_1 h3).1 k1 k3 (by rw [k2]; rfl) hn2 har) fun ρ S => by simp only [semX, semL, kwX] <;> rfl
        | cons _ _ => simp [mL] at h4
      | cons z zs =>
        have hst' := hst
        rw [List.all_cons, Bool.and_eq_true] at hst
        exact okX_eq (okX_callk F hr g.hg tk (g.gl h2) hm hk hb hl hkk (noDbg_1 h3).1 (star_cons hst.1 _ _) k1 k3 (by rw [star_any hst', k2]; rfl) hn hn2 har) fun ρ S => by simp only [semX, kwX] <;> rfl
    · cases h
  | .cv tab e es, x, _, h => by
    simp only [mE] at h
    split at h
    · rename_i ce z xs p
      simp only [Bool.and_eq_true] at h
      obtain ⟨⟨⟨h1, h2⟩, h3⟩, h4⟩ := h
      have hst := mL_star h3
      rw [List.all_cons, Bool.and_eq_true] at hst
      exact okX_eq (okX_cv g.hg tk h1 (g.fv h4) (snd_E c e g false _ h2).e (snd_L c es g _ h3) (star_cons hst.1 _ _) (star_any hst.2)) fun ρ S => by simp only [semX] <;> rfl
    · cases h
end
end LH

namespace LH
open PySem PySem.W L2 PySem.Spec PyProof.Rows
def isComp : Expr → Bool
  | .ListComp .. => true
  | .SetComp .. => true
  | .DictComp .. => true
  | _ => false
def isTup : Expr → Bool
  | .Tuple .. => true
  | _ => false
/-- do the new list and its name change places -/
def swB (sc : Scope) (y : Str) (py p : Pos) (scope : Scope) : Bool :=
  (match sc.names.lookup y with
    | some .local => true
    | _ => false) && (py.line == p.line) && !(scope.names.any fun (n, k) => n == y && (k == .local || k == .cell))
def locB (sc : Scope) (y : Str) : Bool := match sc.names.lookup y with
  | some .local => true
  | _ => false
mutual
def mS (mc : MC) : Sm → Stmt → Bool
  | .asg g e, x => match x with
    | .Assign [tg] v _ => mG mc g tg && mE false mc e v && (match tg, v with
      | .Name _ _, v => (match v with
        | .ListComp _ [⟨_, _, _, 0⟩] _ _ => true
        | .ListComp _ [⟨_, _, _, 0⟩, ⟨_, _, _, 0⟩] _ _ => true
        | .DictComp _ _ [⟨_, _, _, 0⟩] _ _ => true
        | v => !isComp v)
      | .Tuple _ _ _, v => !isComp v && !isTup v
      | _, _ => false)
    | _ => false
  | .par is es, x => match x with
    | .Assign [.Tuple [.Name y py, .Name z pz] _ _] (.Tuple [a, b] _ _) _ => (match is with
      | [i, j] => if locB mc.sc y && locB mc.sc z then decide (mc.N[i]? = some y) && decide (mc.N[j]? = some z) && decide (i ≠ j) && decide (y ≠ z) && locB mc.sc y && locB mc.sc z && mL mc es [a, b] && (pz.line == py.line) && !(foldedForSure 8 a && foldedForSure 8 b) && !(constantsAlone 8 a && constantsAlone 8 b) else mG mc (.tp (.cons (.nm i) (.cons (.nm j) .nil))) (.Tuple [.Name y py, .Name z pz] 0 ⟨0, 0, 0, 0⟩) && mL mc es [a, b]
      | _ => false)
    | .Assign [.Tuple [.Name y py, .Name z pz, .Name w pw] _ _] (.Tuple [a, b, d] _ _) _ => (match is with
      | [i, j, l] => decide (mc.N[i]? = some y) && decide (mc.N[j]? = some z) && decide (mc.N[l]? = some w) && decide (i ≠ j ∧ i ≠ l ∧ j ≠ l) && decide (y ≠ z ∧ y ≠ w ∧ z ≠ w) && locB mc.sc y && locB mc.sc z && locB mc.sc w && mL mc es [a, b, d] && (pz.line == py.line) && (pw.line == py.line) && !(foldedForSure 8 a && foldedForSure 8 b && foldedForSure 8 d) && !(constantsAlone 8 a && constantsAlone 8 b && constantsAlone 8 d)
      | _ => false)
    | _ => false
  | .put o i e, x => match x with
    | .Assign [.Subscript y z _] v _ => plainI z && mE false mc o y && mE false mc i z && mE false mc e v
    | _ => false
  | .aug i op e, x => match x with
    | .AugAssign (.Name y _) o v _ => (decide (op = .add) || decide (op = .sub)) && decide (o = bop op) && mG mc (.nm i) (.Name y ⟨0, 0, 0, 0⟩) && mE false mc e v
    | _ => false
  | .ifs t a b, x => match x with
    | .If y z w _ => mE true mc t y && mB mc a z && mB mc b w
    | _ => false
  | .for_ g it b, x => match x with
    | .For tg iter body [] _ => mI mc it tg iter && notSet iter && mG mc g tg && mB mc b body
    | _ => false
  | .while_ t b, x => match x with
    | .While y body [] _ => mE true mc t y && mB mc b body
    | _ => false
  | .ret e, x => match x with
    | .Return (some y) _ => mE false mc e y
    | _ => false
  | .retN, x => match x with
    | .Return none _ => true
    | _ => false
  | .exp e, x => match x with
    | .Expr y _ => mE false mc e y && !isComp y
    | _ => false
  | .raise k es, x => match es with
    | .cons e .nil => match x with
      | .Raise (some (.Call (.Name y _) [z] [] _)) none _ => decide (y = xName k) && glB mc.sc y && noDbg y && notStar z && mE false mc e z && decide (0 ∈ mc.xs) && decide (k ∈ mc.xs) && decide (k ≠ 0)
      | _ => false
    | .nil => match x with
      | .Raise _ _ _ => true
      | _ => false
    | _ => false
  | .reti t a b, x => match x with
    | .Return (some (.IfExp y z w _)) _ => mE true mc t y && a.isX && b.isX && mE false mc a z && mE false mc b w
    | _ => false
  | .try_ b k i j val, x => match x with
    | .Try body [.ExceptHandler (some (.Name y _)) (some n) [.Assign [.Name u _] v _] _] [] [] _ => mB mc b body && decide (mc.N[i]? = some n) && locB mc.sc n && noDbg n && decide (mc.N[j]? = some u) && locB mc.sc u && decide (y = xName k) && glB mc.sc y && noDbg y && decide (0 ∈ mc.xs) && decide (k ∈ mc.xs) && (match v with
      | .Name m _ => !val && decide (m = n)
      | .Attribute (.Name m _) at_ _ => val && decide (m = n) && decide (at_ = "value")
      | _ => false)
    | _ => false
  | .bad, _ => true
  | .pass, x => match x with
    | .Pass _ => true
    | _ => false
  | .brk, x => match x with
    | .Break _ => true
    | _ => false
  | .cnt, x => match x with
    | .Continue _ => true
    | _ => false
def mB (mc : MC) : B → List Stmt → Bool
  | .nil, xs => xs.isEmpty
  | .cons s r, xs => match xs with
    | x :: xs => mS mc s x && mB mc r xs
    | [] => false
end
theorem sw_no {v : Expr} (h : isComp v = false) (t : Option Expr) (l : Nat) (env : PySem.Env) : swapsWith v t l env = pure false := by
  cases v <;> first | rfl | cases h
theorem sw_sole {v : Expr} (h : isComp v = false) (t : Expr) (l : Nat) (env : PySem.Env) : swapsWithSole [t] v l env = pure false := sw_no h (some t) l env
theorem sw_sub {o i : Expr} {p : Pos} (v : Expr) (l : Nat) (env : PySem.Env) : swapsWithSole [.Subscript o i p] v l env = pure false := by
  cases v <;> rfl
theorem st_sub {o i : Expr} {p : Pos} (v : Expr) (env : PySem.Env) : swappedStores [.Subscript o i p] v env = pure none := by
  cases v <;> rfl
theorem st_tup {v : Expr} (h : isTup v = false) (t : Expr) (env : PySem.Env) : swappedStores [t] v env = pure none := by
  cases v <;> first | (cases t <;> rfl) | cases h
theorem st_name {x : Str} {p : Pos} (v : Expr) (env : PySem.Env) : swappedStores [.Name x p] v env = pure none := by
  cases v <;> rfl
theorem sw_lc {elt : Expr} {gs : List Comprehension} {scope : Scope} {p py : Pos} {y : Str} {l : Nat} {env : PySem.Env} (hk : env.scope.kind = .function) : swapsWith (.ListComp elt gs scope p) (some (.Name y py)) l env = pure (swB env.scope y py p scope) := by
  have hb : env.blockKind = .function := by unfold Env.blockKind; rw [hk]; rfl
  unfold swapsWith swB
  simp only [hb, Env.kindOf, Expr.pos]
  cases env.scope.names.lookup y with
  | none => rfl
  | some k => cases k <;> rfl
theorem sw_dc {kx vx : Expr} {gs : List Comprehension} {scope : Scope} {p py : Pos} {y : Str} {l : Nat} {env : PySem.Env} (hk : env.scope.kind = .function) : swapsWith (.DictComp kx vx gs scope p) (some (.Name y py)) l env = pure (swB env.scope y py p scope) := by
  have hb : env.blockKind = .function := by unfold Env.blockKind; rw [hk]; rfl
  unfold swapsWith swB
  simp only [hb, Env.kindOf, Expr.pos]
  cases env.scope.names.lookup y with
  | none => rfl
  | some k => cases k <;> rfl
theorem st_two {x y : Str} {px py pt pt2 : Pos} {kt k2 : Nat} {a b : Expr} {env : PySem.Env} (hk : env.scope.kind = .function) (hx : env.scope.names.lookup x = some .local) (hy : env.scope.names.lookup y = some .local) (ha : notStar a = true) (hb : notStar b = true) (hl : (py.line == px.line) = true) (hne : x ≠ y)
    (hf : (foldedForSure 8 a && foldedForSure 8 b) = false) (hc : (constantsAlone 8 a && constantsAlone 8 b) = false) : swappedStores [.Tuple [.Name x px, .Name y py] kt pt] (.Tuple [a, b] k2 pt2) env = pure (some [x, y]) := by
  have hbk : env.blockKind = .function := by unfold Env.blockKind; rw [hk]; rfl
  have e1 : ([a, b].any fun | .Starred .. => true | _ => false) = false := by
    rw [List.any_eq_false]
    intro e he
    have hn : notStar e = true := by
      rcases List.mem_cons.mp he with rfl | he
      · exact ha
      · rcases List.mem_cons.mp he with rfl | he
        · exact hb
        · cases he
    cases e <;> first | (intro z; cases z; done) | cases hn
  have e2 : [a, b].all (foldedForSure 8) = false := by simpa using hf
  have e3 : [a, b].all (constantsAlone 8) = false := by simpa using hc
  have kx : env.kindOf x = some .local := hx
  have ky : env.kindOf y = some .local := hy
  have e4 : (some NameKind.local == some NameKind.local && px.line == px.line) = true := by simp
  have e5 : (some NameKind.local == some NameKind.local && py.line == px.line) = true := by rw [hl]; rfl
  have e6 : [x, y].eraseDups.length = 2 := by
    have : (y == x) = false := by simpa using fun e : y = x => hne e.symm
    simp [List.eraseDups_cons, this]
  unfold swappedStores
  simp only [hbk, e2, e3, kx, ky, e4, e5, e6, List.length_cons, List.length_nil, List.head?_cons, Option.map_some, Option.getD_some, Expr.pos, List.filterMap_cons, List.filterMap_nil, if_true]
  refine (if_neg (by decide)).trans ?_
  refine (if_neg (fun z => Bool.noConfusion (z.symm.trans e1))).trans ?_
  refine (if_neg (by decide)).trans ?_
  refine (if_neg (by decide)).trans ?_
  exact if_neg (by decide)
theorem st_none2 {x y : Str} {px py pt pt2 : Pos} {kt k2 : Nat} {a b : Expr} {env : PySem.Env} (hk : env.scope.kind = .function) (ha : notStar a = true) (hb : notStar b = true) (h : ¬ (env.scope.names.lookup x = some .local ∧ env.scope.names.lookup y = some .local)) :
    swappedStores [.Tuple [.Name x px, .Name y py] kt pt] (.Tuple [a, b] k2 pt2) env = pure none := by
  have hbk : env.blockKind = .function := by unfold Env.blockKind; rw [hk]; rfl
  have e1 : ([a, b].any fun | .Starred .. => true | _ => false) = false := by
    rw [List.any_eq_false]
    intro e he
    have hn : notStar e = true := by
      simp only [List.mem_cons, List.not_mem_nil, or_false] at he
      rcases he with rfl | rfl <;> assumption
    cases e <;> first | (intro z; cases z; done) | cases hn
  have kk : (env.kindOf x == some .local && env.kindOf y == some .local) = false := by
    rw [Bool.eq_false_iff]
    intro z
    simp only [Bool.and_eq_true, beq_iff_eq] at z
    exact h z
  rw [Bool.and_eq_false_iff] at kk
  obtain ⟨c1, h1⟩ : ∃ c, (env.kindOf x == some .local && px.line == px.line) = c := ⟨_, rfl⟩
  obtain ⟨c2, h2⟩ : ∃ c, (env.kindOf y == some .local && py.line == px.line) = c := ⟨_, rfl⟩
  have hc : c1 = false ∨ c2 = false := by
    rcases kk with z | z
    · left; rw [← h1, z]; rfl
    · right; rw [← h2, z]; rfl
  unfold swappedStores
  simp only [hbk, h1, h2, List.length_cons, List.length_nil, List.head?_cons, Option.map_some, Option.getD_some, Expr.pos, List.filterMap_cons, List.filterMap_nil]
  refine (if_neg (by decide)).trans ?_
  refine (if_neg (fun z => Bool.noConfusion (z.symm.trans e1))).trans ?_
  refine if_pos ?_
  rcases hc with rfl | rfl
  · cases c2 <;> rfl
  · cases c1 <;> rfl
theorem st_three {x y z : Str} {px py pz pt pt2 : Pos} {kt k2 : Nat} {a b c : Expr} {env : PySem.Env} (hk : env.scope.kind = .function) (hx : env.scope.names.lookup x = some .local) (hy : env.scope.names.lookup y = some .local) (hz : env.scope.names.lookup z = some .local) (ha : notStar a = true) (hb : notStar b = true) (hc' : notStar c = true)
    (hl : (py.line == px.line) = true) (hl2 : (pz.line == px.line) = true) (hne : x ≠ y ∧ x ≠ z ∧ y ≠ z)
    (hf : (foldedForSure 8 a && foldedForSure 8 b && foldedForSure 8 c) = false) (hc : (constantsAlone 8 a && constantsAlone 8 b && constantsAlone 8 c) = false) : swappedStores [.Tuple [.Name x px, .Name y py, .Name z pz] kt pt] (.Tuple [a, b, c] k2 pt2) env = pure (some [x, y, z]) := by
  have hbk : env.blockKind = .function := by unfold Env.blockKind; rw [hk]; rfl
  have e1 : ([a, b, c].any fun | .Starred .. => true | _ => false) = false := by
    rw [List.any_eq_false]
    intro e he
    have hn : notStar e = true := by
      simp only [List.mem_cons, List.not_mem_nil, or_false] at he
      rcases he with rfl | rfl | rfl <;> assumption
    cases e <;> first | (intro z; cases z; done) | cases hn
  have e2 : [a, b, c].all (foldedForSure 8) = false := by simpa [Bool.and_assoc] using hf
  have e3 : [a, b, c].all (constantsAlone 8) = false := by simpa [Bool.and_assoc] using hc
  have kx : env.kindOf x = some .local := hx
  have ky : env.kindOf y = some .local := hy
  have kz : env.kindOf z = some .local := hz
  have e4 : (some NameKind.local == some NameKind.local && px.line == px.line) = true := by simp
  have e5 : (some NameKind.local == some NameKind.local && py.line == px.line) = true := by rw [hl]; rfl
  have e5' : (some NameKind.local == some NameKind.local && pz.line == px.line) = true := by rw [hl2]; rfl
  have e6 : [x, y, z].eraseDups.length = 3 := by
    have h1 : (y == x) = false := by simpa using fun e : y = x => hne.1 e.symm
    have h2 : (z == x) = false := by simpa using fun e : z = x => hne.2.1 e.symm
    have h3 : (z == y) = false := by simpa using fun e : z = y => hne.2.2 e.symm
    simp [List.eraseDups_cons, h1, h2, h3]
  unfold swappedStores
  simp only [hbk, e2, e3, kx, ky, kz, e4, e5, e5', e6, List.length_cons, List.length_nil, List.head?_cons, Option.map_some, Option.getD_some, Expr.pos, List.filterMap_cons, List.filterMap_nil, if_true]
  refine (if_neg (by decide)).trans ?_
  refine (if_neg (fun z => Bool.noConfusion (z.symm.trans e1))).trans ?_
  refine (if_neg (by decide)).trans ?_
  refine (if_neg (by decide)).trans ?_
  exact if_neg (by decide)
section
variable {X : Cx} {W : WX} {c : Nat → List D → Store → R D} {mc : MC} {fuel : Nat}
theorem Good.loc (g : Good X c mc) {y : Str} (h : locB mc.sc y = true) : X.env.scope.names.lookup y = some .local := by
  unfold locB at h
  rw [g.sc]
  split at h
  · assumption
  · cases h
theorem asgL_two {i j : Nat} {d1 d2 : D} {ρ : Env} : asgN [i, j] [d1, d2] ρ = some ((ρ.set i (some d1)).set j (some d2)) := rfl
theorem okS_no {st : Stmt} : OkS X W st (fun _ _ => .no) := ⟨fun pins s σ H D I ⟨T, ρ, S, _, _, _, p⟩ => (show False from p).elim⟩
theorem isX_callE {e : E} {v : Expr} (h : e.isX = true) (m : mE false mc e v = true) : ∃ a b c d, v = .Call a b c d := by
  cases e with
  | call f es =>
    simp only [mE] at m
    split at m
    · exact ⟨_, _, _, _, rfl⟩
    · cases m
  | callk f es ks p =>
    simp only [mE] at m
    split at m
    · exact ⟨_, _, _, _, rfl⟩
    · cases m
  | cv tab e es =>
    simp only [mE] at m
    split at m
    · exact ⟨_, _, _, _, rfl⟩
    · cases m
  | _ => cases h
theorem Good.loc2 (g : Good X c mc) {i : Nat} {y : Str} {q : Pos} (hG : mG mc (.nm i) (.Name y q) = true) : X.N[i]? = some y ∧ Loc X.env.scope y ∧ (X.fn y = true ∨ X.env.scope.names.lookup y = some .local) := by
  simp only [mG, Bool.and_eq_true, decide_eq_true_eq] at hG
  refine ⟨g.at hG.1, ?_⟩
  have h2 := hG.2
  split at h2
  · rename_i hl
    rw [← g.sc] at hl
    exact ⟨.inl hl, .inr hl⟩
  · rename_i hl
    rw [← g.sc] at hl
    exact ⟨.inr hl, .inl (by rw [g.fn]; exact h2)⟩
  · cases h2
theorem snd_asgX (tk : L2.Takes X W) (g : Good X c mc) {t : G} {e : E} {x : Stmt} (hx : e.isX = true) (h : mS mc (.asg t e) x = true) : OkS X W x (fun ρ S => (semX c e ρ S).toX ρ fun d S1 => match asgG t d ρ with
    | some ρ' => .nx ρ' S1
    | none => .no) := by
  simp only [mS] at h
  split at h
  · rename_i tg v pos
    simp only [Bool.and_eq_true] at h
    obtain ⟨⟨h1, h2⟩, h3⟩ := h
    have hE := snd_X tk g e v hx h2
    obtain ⟨a, b, c', d, rfl⟩ := isX_callE hx h2
    split at h3
    · rename_i v' y py
      cases t with
      | nm i =>
        obtain ⟨hi, hL⟩ := g.loc2 h1
        exact okS_setX g.nd hi hL.1 hE (sw_no rfl _ _ _) hL.2
      | tp r => simp [mG] at h1
      | nil => simp [mG] at h1
      | cons a b => simp [mG] at h1
    · exact okS_asgX hE (snd_G g t _ h1) (sw_sole rfl _ _ _) (st_tup rfl _ _) rfl
    · cases h3
  · cases h
theorem snd_asg (g : Good X c mc) {t : G} {e : E} {x : Stmt} (h : mS mc (.asg t e) x = true) : OkS X W x (fun ρ S => (semE c e ρ S).toS ρ fun d S1 => match asgG t d ρ with
    | some ρ' => .nx ρ' S1
    | none => .no) := by
  simp only [mS] at h
  split at h
  · rename_i tg v pos
    simp only [Bool.and_eq_true] at h
    obtain ⟨⟨h1, h2⟩, h3⟩ := h
    have hE := snd_E c e g false _ h2
    split at h3
    · rename_i v' y py
      cases t with
      | nm i =>
        have hG := h1
        simp only [mG, Bool.and_eq_true, decide_eq_true_eq] at hG
        have hi := g.at hG.1
        have hL : Loc X.env.scope y ∧ (X.fn y = true ∨ X.env.scope.names.lookup y = some .local) := by
          have h2 := hG.2
          split at h2
          · rename_i hl
            rw [← g.sc] at hl
            exact ⟨.inl hl, .inr hl⟩
          · rename_i hl
            rw [← g.sc] at hl
            exact ⟨.inr hl, .inl (by rw [g.fn]; exact h2)⟩
          · cases h2
        split at h3
        · rename_i elt tg2 iter ifs scope p
          have sw := sw_lc (elt := elt) (gs := [⟨tg2, iter, ifs, 0⟩]) (scope := scope) (p := p) (py := py) (y := y) (l := pos.line) (env := X.env) g.kind
          cases hsw : swB X.env.scope y py p scope with
          | false =>
            rw [hsw] at sw
            exact okS_eq (okS_set g.nd hi hL.1 hE.e sw hL.2) fun ρ S => rfl
          | true =>
            rw [hsw] at sw
            have hyl : X.env.scope.names.lookup y = some .local := by
              unfold swB at hsw
              simp only [Bool.and_eq_true] at hsw
              have h2 := hsw.1.1
              split at h2
              · assumption
              · cases h2
            cases e with
            | lc m own elt' g' it cs =>
              simp only [mE, Bool.and_eq_true] at h2
              obtain ⟨⟨⟨⟨⟨⟨h1, h2⟩, h3⟩, h4⟩, h5⟩, h6⟩, h7⟩ := h2
              have bo := blkOk_by h3
              refine okS_eq (okS_setLc (b := m) g.calm g.nd hi hyl sw (snd_I c it g tg2 iter h1) (by rw [g.N, g.sc]; exact bo) (fun i hi => ?_) (fun s H C cl fp => snd_G (g.blk bo.kind) g' tg2 h5) (fun s H C cl fp => snd_C c cs (g.blk bo.kind) ifs h6) (fun s H C cl fp => (snd_E c elt' (g.blk bo.kind) false elt h7).e) (fun x => notSet_pure h2 _ x)) fun ρ S => by simp only [semE] <;> rfl
              exact of_decide_eq_true (List.all_eq_true.mp h4 i hi)
            | bad => exact okS_eq okS_no fun ρ S => by simp only [semE]; rfl
            | _ => simp [mE] at h2
        · rename_i elt tg2 iter ifs tg3 iter3 ifs3 scope p
          have sw := sw_lc (elt := elt) (gs := [⟨tg2, iter, ifs, 0⟩, ⟨tg3, iter3, ifs3, 0⟩]) (scope := scope) (p := p) (py := py) (y := y) (l := pos.line) (env := X.env) g.kind
          cases hsw : swB X.env.scope y py p scope with
          | false =>
            rw [hsw] at sw
            exact okS_eq (okS_set g.nd hi hL.1 hE.e sw hL.2) fun ρ S => rfl
          | true =>
            rw [hsw] at sw
            have hyl : X.env.scope.names.lookup y = some .local := by
              unfold swB at hsw
              simp only [Bool.and_eq_true] at hsw
              have h2 := hsw.1.1
              split at h2
              · assumption
              · cases h2
            cases e with
            | lc2 m own elt' g' it cs g1 it1 cs1 =>
              simp only [mE, Bool.and_eq_true] at h2
              obtain ⟨⟨⟨⟨⟨⟨⟨⟨⟨⟨⟨h1, h2⟩, h3⟩, h4⟩, h5⟩, h6⟩, h7⟩, h8⟩, h9⟩, h10⟩, h11⟩, h12⟩ := h2
              have bo := blkOk_by h3
              exact okS_eq (okS_setLc2 (b := m) g.calm g.nd hi hyl sw (snd_I c it g tg2 iter h1) (by rw [g.N, g.sc]; exact bo) (fun i hi => of_decide_eq_true (List.all_eq_true.mp h4 i hi)) (fun i hi => of_decide_eq_true (List.all_eq_true.mp h9 i hi)) (fun s H C cl fp => snd_G (g.blk bo.kind) g' tg2 h5) (fun s H C cl fp => snd_C c cs (g.blk bo.kind) ifs h6)
                (fun s H C cl fp => snd_I c it1 (g.blk bo.kind) tg3 iter3 h10) (fun s H C cl fp => snd_G (g.blk bo.kind) g1 tg3 h11) (fun s H C cl fp => snd_C c cs1 (g.blk bo.kind) ifs3 h12) (fun s H C cl fp => (snd_E c elt' (g.blk bo.kind) false elt h7).e) (fun x => notSet_pure h2 _ x) (fun env x => notSet_pure h8 env x)) fun ρ S => by simp only [semE] <;> rfl
            | bad => exact okS_eq okS_no fun ρ S => by simp only [semE]; rfl
            | _ => simp [mE] at h2
        · rename_i kx vx tg2 iter ifs scope p
          have sw := sw_dc (kx := kx) (vx := vx) (gs := [⟨tg2, iter, ifs, 0⟩]) (scope := scope) (p := p) (py := py) (y := y) (l := pos.line) (env := X.env) g.kind
          cases hsw : swB X.env.scope y py p scope with
          | false =>
            rw [hsw] at sw
            exact okS_eq (okS_set g.nd hi hL.1 hE.e sw hL.2) fun ρ S => rfl
          | true =>
            rw [hsw] at sw
            have hyl : X.env.scope.names.lookup y = some .local := by
              unfold swB at hsw
              simp only [Bool.and_eq_true] at hsw
              have h2 := hsw.1.1
              split at h2
              · assumption
              · cases h2
            cases e with
            | dc m own ke ve g' it cs =>
              simp only [mE, Bool.and_eq_true] at h2
              obtain ⟨⟨⟨⟨⟨⟨⟨h1, h2⟩, h3⟩, h4⟩, h5⟩, h6⟩, h7⟩, h8⟩ := h2
              have bo := blkOk_by h3
              exact okS_eq (okS_setDc (b := m) g.calm g.nd hi hyl sw (snd_I c it g tg2 iter h1) (by rw [g.N, g.sc]; exact bo) (fun i hi => of_decide_eq_true (List.all_eq_true.mp h4 i hi)) (fun s H C cl fp => snd_G (g.blk bo.kind) g' tg2 h5) (fun s H C cl fp => snd_C c cs (g.blk bo.kind) ifs h6) (fun s H C cl fp => (snd_E c ke (g.blk bo.kind) false kx h7).e) (fun s H C cl fp => (snd_E c ve (g.blk bo.kind) false vx h8).e) (fun x => notSet_pure h2 _ x)) fun ρ S => by simp only [semE] <;> rfl
            | bad => exact okS_eq okS_no fun ρ S => by simp only [semE]; rfl
            | _ => simp [mE] at h2
        · rename_i hn
          have h3 : isComp v = false := by simpa using h3
          exact okS_eq (okS_set g.nd hi hL.1 hE.e (sw_no h3 _ _ _) hL.2) fun ρ S => rfl
      | tp r => simp [mG] at h1
      | nil => simp [mG] at h1
      | cons a b => simp [mG] at h1
    · rename_i es k p v'
      simp only [Bool.and_eq_true, Bool.not_eq_true'] at h3
      exact okS_eq (okS_asg hE.e (snd_G g t _ h1) (sw_sole h3.1 _ _ _) (st_tup h3.2 _ _) rfl) fun ρ S => rfl
    · cases h3
  · cases h

mutual
theorem snd_S : ∀ (s : Sm) {X : Cx} {W : WX} (tk : L2.Takes X W) (ok : TryOk X) (g : Good X c mc) (hp : PassesOwn (model X.prog X.w) X.A X.env X.xe) (x : Stmt), mS mc s x = true → OkS X W x (semS c fuel s)
  | .asg t e, X, W, tk, ok, g, hp, x, h => by
    cases hx : e.isX with
    | true => exact okS_eq (snd_asgX tk g hx h) fun ρ S => by simp only [semS, hx, if_true] <;> rfl
    | false => exact okS_eq (snd_asg g h) fun ρ S => by simp only [semS, hx, Bool.false_eq_true, if_false] <;> rfl
  | .par is es, X, W, tk, ok, g, hp, x, h => by
    simp only [mS] at h
    split at h
    · rename_i y py z pz kt pt a b k2 pt2 pos
      split at h
      · rename_i i j
        split at h
        case isFalse hloc =>
          rw [Bool.and_eq_true] at h
          have hst := mL_star h.2
          simp only [List.all_cons, Bool.and_eq_true] at hst
          have hG : mG mc (.tp (.cons (.nm i) (.cons (.nm j) .nil))) (.Tuple [.Name y py, .Name z pz] kt pt) = true := by simpa only [mG] using h.1
          refine okS_eq (okS_parT (is := [i, j]) (snd_G g _ _ hG) (snd_L c es g _ h.2) (fun ds ρ => ?_) (fun ρ S ds S' e => ?_) (st_none2 g.kind hst.1 hst.2.1 fun ⟨l1, l2⟩ => hloc ?_) rfl) fun ρ S => by simp only [semS] <;> rfl
          · match ds with
            | [] => simp [asgN, asgL]
            | [d1] => simp [asgN, asgL, asgG]
            | [d1, d2] => simp [asgN, asgL, asgG]
            | _ :: _ :: _ :: _ => simp [asgN, asgL, asgG]
          · have h1 := semL_len e
            have h2 := mL_len h.2
            rw [h1, ← h2]
            show 2 ≤ 16000000
            decide
          · rw [g.sc] at l1 l2
            simp [locB, l1, l2]
        simp only [Bool.and_eq_true, decide_eq_true_eq, Bool.not_eq_true'] at h
        obtain ⟨⟨⟨⟨⟨⟨⟨⟨⟨h1, h2⟩, h3⟩, h4⟩, h5⟩, h6⟩, h7⟩, h8⟩, h9⟩, h10⟩ := h
        have hst := mL_star h7
        simp only [List.all_cons, Bool.and_eq_true] at hst
        exact okS_eq (okS_par2 g.calm g.nd (g.at h1) (g.at h2) h3 (g.loc h5) (g.loc h6) (snd_L c es g _ h7) (st_two g.kind (g.loc h5) (g.loc h6) hst.1 hst.2.1 h8 h4 h9 h10)) fun ρ S => by simp only [semS] <;> rfl
      · cases h
    · rename_i y py z pz w pw kt pt a b d k2 pt2 pos
      split at h
      · rename_i i j l
        simp only [Bool.and_eq_true, decide_eq_true_eq, Bool.not_eq_true'] at h
        obtain ⟨⟨⟨⟨⟨⟨⟨⟨⟨⟨⟨⟨h1, h2⟩, h3⟩, h4⟩, h5⟩, h6⟩, h7⟩, h8⟩, h9⟩, h10⟩, h11⟩, h12⟩, h13⟩ := h
        have hst := mL_star h9
        simp only [List.all_cons, Bool.and_eq_true] at hst
        exact okS_eq (okS_par3 g.calm g.nd (g.at h1) (g.at h2) (g.at h3) h4.1 h4.2.1 h4.2.2 (g.loc h6) (g.loc h7) (g.loc h8) (snd_L c es g _ h9) (st_three g.kind (g.loc h6) (g.loc h7) (g.loc h8) hst.1 hst.2.1 hst.2.2.1 h10 h11 h5 h12 h13)) fun ρ S => by simp only [semS] <;> rfl
      · cases h
    · cases h
  | .put o i e, X, W, tk, ok, g, hp, x, h => by
    simp only [mS] at h
    split at h
    · rename_i y z p v pos
      simp only [Bool.and_eq_true] at h
      obtain ⟨⟨⟨h1, h2⟩, h3⟩, h4⟩ := h
      refine okS_eq (okS_put g.hu1 (snd_E c o g false _ h2).e (snd_E c i g false _ h3).e (snd_E c e g false _ h4).e (sw_sub _ _ _) (st_sub _ _) ?_) fun ρ S => by simp only [semS] <;> rfl
      intro v
      cases z <;> first | rfl | cases h1
    · cases h
  | .aug i op e, X, W, tk, ok, g, hp, x, h => by
    simp only [mS] at h
    split at h
    · rename_i y p o v pos
      simp only [Bool.and_eq_true, decide_eq_true_eq, Bool.or_eq_true, mG] at h
      obtain ⟨⟨⟨h1, rfl⟩, h2, h3⟩, h4⟩ := h
      have hL : Loc X.env.scope y ∧ (X.fn y = true ∨ X.env.scope.names.lookup y = some .local) := by
        split at h3
        · rename_i hl
          rw [← g.sc] at hl
          exact ⟨.inl hl, .inr hl⟩
        · rename_i hl
          rw [← g.sc] at hl
          exact ⟨.inr hl, .inl (by rw [g.fn]; exact h3)⟩
        · cases h3
      exact okS_eq (okS_aug h1 g.nd (g.at h2) hL.1 (snd_E c e g false _ h4).e hL.2) fun ρ S => by simp only [semS] <;> rfl
    · cases h
  | .ifs t a b, X, W, tk, ok, g, hp, x, h => by
    simp only [mS] at h
    split at h
    · simp only [Bool.and_eq_true] at h
      obtain ⟨⟨h1, h2⟩, h3⟩ := h
      exact okS_eq (okS_if ((snd_E c t g true _ h1).t rfl) (snd_B a tk ok g hp _ h2) (snd_B b tk ok g hp _ h3)) fun ρ S => by simp only [semS] <;> rfl
    · cases h
  | .for_ t it b, X, W, tk, ok, g, hp, x, h => by
    simp only [mS] at h
    split at h
    · simp only [Bool.and_eq_true] at h
      obtain ⟨⟨⟨h1, h2⟩, h3⟩, h4⟩ := h
      exact okS_eq (okS_for hp g.calm (snd_I c it g _ _ h1) (snd_G g t _ h3) (snd_B b tk ok g hp _ h4) (fun x => notSet_pure h2 _ x)) fun ρ S => by simp only [semS]
    · cases h
  | .while_ t b, X, W, tk, ok, g, hp, x, h => by
    simp only [mS] at h
    split at h
    · simp only [Bool.and_eq_true] at h
      exact okS_eq (okS_while (fuel := fuel) hp ((snd_E c t g true _ h.1).t rfl) (snd_B b tk ok g hp _ h.2)) fun ρ S => by simp only [semS] <;> rfl
    · cases h
  | .ret e, X, W, tk, ok, g, hp, x, h => by
    simp only [mS] at h
    split at h
    · cases hx : e.isX with
      | true => exact okS_eq (okS_retX (snd_X tk g e _ hx h)) fun ρ S => by simp only [semS, hx, if_true]
      | false => exact okS_eq (okS_ret (snd_E c e g false _ h).e) fun ρ S => by simp only [semS, hx, Bool.false_eq_true, if_false]
    · cases h
  | .reti t a b, X, W, tk, ok, g, hp, x, h => by
    simp only [mS] at h
    split at h
    · simp only [Bool.and_eq_true] at h
      obtain ⟨⟨⟨⟨h1, h2⟩, h3⟩, h4⟩, h5⟩ := h
      exact okS_eq (okS_reti ((snd_E c t g true _ h1).t rfl) (snd_X tk g a _ h2 h4) (snd_X tk g b _ h3 h5)) fun ρ S => by simp only [semS, h2, h3, if_true] <;> rfl
    · cases h
  | .retN, X, W, tk, ok, g, hp, x, h => by
    simp only [mS] at h
    split at h
    · exact okS_eq okS_retN fun ρ S => by simp only [semS]
    · cases h
  | .exp e, X, W, tk, ok, g, hp, x, h => by
    simp only [mS] at h
    split at h
    · simp only [Bool.and_eq_true, Bool.not_eq_true'] at h
      cases hx : e.isX with
      | true => exact okS_eq (okS_exprX (snd_X tk g e _ hx h.1) (sw_no h.2 _ _ _)) fun ρ S => by simp only [semS, hx, if_true]
      | false => exact okS_eq (okS_expr (snd_E c e g false _ h.1).e (sw_no h.2 _ _ _)) fun ρ S => by simp only [semS, hx, Bool.false_eq_true, if_false]
    · cases h
  | .raise k es, X, W, tk, ok, g, hp, x, h => by
    simp only [mS] at h
    split at h
    · rename_i e
      split at h
      · simp only [Bool.and_eq_true, decide_eq_true_eq] at h
        obtain ⟨⟨⟨⟨⟨⟨⟨rfl, h1⟩, h2⟩, h3⟩, h4⟩, h5⟩, h6⟩, h7⟩ := h
        obtain ⟨D0, fI, C, xb, xc, xk, hm⟩ := g.x.own k h6 h7
        refine okS_eq (okS_raise g.calm tk xb xc xk (g.x.sup h5) g.rm (g.gl h1) hm (snd_E c e g false _ h4).e (noDbg_1 h2).1 (star_cons h3 _ _)) fun ρ S => ?_
        simp only [semS, semL]
        cases semE c e ρ S <;> rfl
      · cases h
    · split at h
      · refine okS_eq okS_never fun ρ S => ?_
        simp only [semS, semL]
        rfl
      · cases h
    · cases h
  | .try_ b k i j val, X, W, tk, ok, g, hp, x, h => by
    simp only [mS] at h
    split at h
    · rename_i body y np n u pu v pa ph pt
      simp only [Bool.and_eq_true, decide_eq_true_eq] at h
      obtain ⟨⟨⟨⟨⟨⟨⟨⟨⟨⟨⟨h1, h2⟩, h3⟩, h4⟩, h5⟩, h6⟩, rfl⟩, h7⟩, h8⟩, h9⟩, h10⟩, h11⟩ := h
      have hi := g.at h2
      have hj := g.at h5
      have hn := g.loc h3
      have hu := g.loc h6
      have nd := noDbg_1 h4
      have hjl : j < X.N.length := (List.getElem?_eq_some_iff.mp hj).1
      have fin : ∀ {val' : Bool} {cc : Value}, val' = val → XNm X (xName k) k cc → (∀ (a : Addr) (oe : Obj) (cls : Value) (d : Option Addr) (pn : List (Addr × Obj)), L2.Zc cls d oe → (∃ vs, oe.data = .fields vs) → PSs (X.suite a ((a, oe) :: pn)) [.Assign [.Name u pu] v pa] (tAt i (tKp X.K val' j) a cls d)) →
          OkS X W (.Try body [.ExceptHandler (some (.Name (xName k) np)) (some n) [.Assign [.Name u pu] v pa] ph] [] [] pt) (semS c fuel (.try_ b k i j val)) := by
        intro val' cc hv hc hsu
        subst hv
        refine okS_eq (okS_try (mb := semB c fuel b) ok tk g.nd hi hn hjl hc (fun W' pn xe tk' hp' => snd_B b (X := X.tr pn xe) tk' ⟨ok.stk, ok.frm, ok.ex⟩ g.tr hp' _ h1) hsu) fun ρ S => ?_
        simp only [semS]
        cases semB c fuel b ρ S <;> rfl
      have go : ∀ {val' : Bool}, val' = val → (∀ (a : Addr) (oe : Obj) (cls : Value) (d : Option Addr) (pn : List (Addr × Obj)), L2.Zc cls d oe → (∃ vs, oe.data = .fields vs) → PSs (X.suite a ((a, oe) :: pn)) [.Assign [.Name u pu] v pa] (tAt i (tKp X.K val' j) a cls d)) →
          OkS X W (.Try body [.ExceptHandler (some (.Name (xName k) np)) (some n) [.Assign [.Name u pu] v pa] ph] [] [] pt) (semS c fuel (.try_ b k i j val)) := by
        intro val' hv hsu
        by_cases hk : k = 0
        · subst hk
          obtain ⟨D0, xt, hm⟩ := g.x.top h9
          exact fin hv (.top (g.gl h7) hm (noDbg_1 h8).1 xt) hsu
        · obtain ⟨D0, fI, C, _, _, xk, hm⟩ := g.x.own k h10 hk
          exact fin hv (.own hk (g.gl h7) hm (noDbg_1 h8).1 xk) hsu
      split at h11
      · simp only [Bool.and_eq_true, Bool.not_eq_true', decide_eq_true_eq] at h11
        obtain ⟨e1, rfl⟩ := h11
        exact go (val' := false) e1.symm fun a oe cls d pn hz hf => suite_keep g.nd hi hj hn hu nd.1 nd.2
      · simp only [Bool.and_eq_true, decide_eq_true_eq] at h11
        obtain ⟨⟨e1, rfl⟩, rfl⟩ := h11
        exact go (val' := true) e1.symm fun a oe cls d pn hz hf => suite_keepV hz hf g.nd hi hj hn hu nd.1 nd.2
      · cases h11
    · cases h
  | .bad, X, W, tk, ok, g, hp, x, h => by
    have e : semS c fuel .bad = fun _ _ => .no := funext fun ρ => funext fun S => by simp only [semS]
    rw [e]
    exact ⟨fun pins s σ H D I ⟨T, ρ, S, _, _, _, p⟩ => (show False from p).elim⟩
  | .pass, X, W, tk, ok, g, hp, x, h => by
    simp only [mS] at h
    split at h
    · exact okS_eq okS_pass fun ρ S => by simp only [semS]
    · cases h
  | .brk, X, W, tk, ok, g, hp, x, h => by
    simp only [mS] at h
    split at h
    · exact okS_eq okS_brk fun ρ S => by simp only [semS]
    · cases h
  | .cnt, X, W, tk, ok, g, hp, x, h => by
    simp only [mS] at h
    split at h
    · exact okS_eq okS_cnt fun ρ S => by simp only [semS]
    · cases h
theorem snd_B : ∀ (b : B) {X : Cx} {W : WX} (tk : L2.Takes X W) (ok : TryOk X) (g : Good X c mc) (hp : PassesOwn (model X.prog X.w) X.A X.env X.xe) (xs : List Stmt), mB mc b xs = true → OkB X W xs (semB c fuel b)
  | .nil, X, W, tk, ok, g, hp, xs, h => by
    simp only [mB, List.isEmpty_iff] at h
    subst h
    exact okB_eq okB_nil fun ρ S => by simp only [semB]
  | .cons s r, X, W, tk, ok, g, hp, xs, h => by
    simp only [mB] at h
    split at h
    · simp only [Bool.and_eq_true] at h
      refine okB_eq (okB_cons (snd_S s tk ok g hp _ h.1) (snd_B r tk ok g hp _ h.2)) fun ρ S => ?_
      simp only [semB] <;> rfl
    · cases h
end
end
end LH

namespace LH
open PySem PySem.W L2 PySem.Spec PyProof.Rows
/-! ## what is handed back from a frame -/
section
variable {K : Frag} {T T' : Tr} {S : Store}
mutual
/-- the place may grow where the refs are low -/
theorem Rep.low {b : Nat} (hb : b ≤ T'.N) (ef : ∀ a, T.fr a → T'.fr a) (eh : T'.H = T.H) (em : T'.mu = T.mu) : ∀ {d : D} {v : V}, d.cl b = true → Rep K T d v → Rep K T' d v
  | .non, _, _, h => by unfold Rep at h ⊢; exact h
  | .bl _, _, _, h => by unfold Rep at h ⊢; exact h
  | .int _, _, _, h => by unfold Rep at h ⊢; exact h
  | .str _, _, _, h => by unfold Rep at h ⊢; exact h
  | .lst xs, _, c, h => by
    unfold Rep at h ⊢
    obtain ⟨a, vs, e1, f, o, r⟩ := h
    exact ⟨a, vs, e1, ef a f, by rw [eh]; exact o, RepL.low hb ef eh em (by simpa only [D.cl] using c) r⟩
  | .tup xs, _, c, h => by
    unfold Rep at h ⊢
    obtain ⟨a, vs, e1, f, o, r⟩ := h
    exact ⟨a, vs, e1, ef a f, by rw [eh]; exact o, RepL.low hb ef eh em (by simpa only [D.cl] using c) r⟩
  | .dct t ks ds, _, c, h => by
    unfold Rep at h ⊢
    obtain ⟨a, u, vs, e1, f, o, k, r⟩ := h
    exact ⟨a, u, vs, e1, ef a f, by rw [eh]; exact o, k, RepL.low hb ef eh em (by simpa only [D.cl] using c) r⟩
  | .ref n, _, c, h => by
    unfold Rep at h ⊢
    simp only [D.cl, decide_eq_true_eq] at c
    exact ⟨Nat.lt_of_lt_of_le c hb, by rw [em]; exact h.2⟩
  | .fn _, _, _, h => by unfold Rep at h ⊢; exact h
  | .exc k d, _, c, h => by
    unfold Rep at h ⊢
    obtain ⟨a, dx, C, oe, fs, u, e1, f, o, z, v, n, f2, o2, l, r⟩ := h
    exact ⟨a, dx, C, oe, fs, u, e1, ef a f, by rw [eh]; exact o, z, v, n, ef dx f2, by rw [eh]; exact o2, l, Rep.low hb ef eh em (by simpa only [D.cl] using c) r⟩
  | .scr ns, _, _, h => by
    unfold Rep at h ⊢
    obtain ⟨a, e1, o⟩ := h
    exact ⟨a, e1, o.imp (fun ⟨f, o, z⟩ => ⟨ef a f, o, by rw [eh]; exact z⟩) fun z => z⟩
theorem RepL.low {b : Nat} (hb : b ≤ T'.N) (ef : ∀ a, T.fr a → T'.fr a) (eh : T'.H = T.H) (em : T'.mu = T.mu) : ∀ {ds : List D} {vs : List V}, D.clL b ds = true → RepL K T ds vs → RepL K T' ds vs
  | [], _, _, h => by unfold RepL at h ⊢; exact h
  | d :: ds, _, c, h => by
    simp only [D.clL, Bool.and_eq_true] at c
    unfold RepL at h ⊢
    obtain ⟨v, r, e1, h1, h2⟩ := h
    exact ⟨v, r, e1, Rep.low hb ef eh em c.1 h1, RepL.low hb ef eh em c.2 h2⟩
end
mutual
theorem Rep.trav (ef : ∀ a, T.fr a → T'.fr a) (eh : T'.H = T.H) {g : Nat → Option D} (hg : ∀ n v x, Rep K T (.ref n) v → g n = some x → Rep K T' x v) : ∀ {d x : D} {v : V}, Rep K T d v → D.trav g d = some x → Rep K T' x v
  | .non, x, _, h, e => by simp only [D.trav] at e; cases e; unfold Rep at h ⊢; exact h
  | .bl _, x, _, h, e => by simp only [D.trav] at e; cases e; unfold Rep at h ⊢; exact h
  | .int _, x, _, h, e => by simp only [D.trav] at e; cases e; unfold Rep at h ⊢; exact h
  | .str _, x, _, h, e => by simp only [D.trav] at e; cases e; unfold Rep at h ⊢; exact h
  | .lst xs, x, _, h, e => by
    simp only [D.trav, Option.map_eq_some_iff] at e
    obtain ⟨ys, e, rfl⟩ := e
    unfold Rep at h ⊢
    obtain ⟨a, vs, e1, f, o, r⟩ := h
    exact ⟨a, vs, e1, ef a f, by rw [eh]; exact o, RepL.trav ef eh hg r e⟩
  | .tup xs, x, _, h, e => by
    simp only [D.trav, Option.map_eq_some_iff] at e
    obtain ⟨ys, e, rfl⟩ := e
    unfold Rep at h ⊢
    obtain ⟨a, vs, e1, f, o, r⟩ := h
    exact ⟨a, vs, e1, ef a f, by rw [eh]; exact o, RepL.trav ef eh hg r e⟩
  | .dct t ks ds, x, _, h, e => by
    simp only [D.trav, Option.map_eq_some_iff] at e
    obtain ⟨ys, e, rfl⟩ := e
    unfold Rep at h ⊢
    obtain ⟨a, u, vs, e1, f, o, k, r⟩ := h
    exact ⟨a, u, vs, e1, ef a f, by rw [eh]; exact o, k, RepL.trav ef eh hg r e⟩
  | .ref n, x, v, h, e => by
    simp only [D.trav] at e
    exact hg n v x h e
  | .fn _, x, _, h, e => by simp only [D.trav] at e; cases e; unfold Rep at h ⊢; exact h
  | .exc k d, x, _, h, e => by
    simp only [D.trav, Option.map_eq_some_iff] at e
    obtain ⟨y, e, rfl⟩ := e
    unfold Rep at h ⊢
    obtain ⟨a, dx, C, oe, fs, u, e1, f, o, z, v, n, f2, o2, l, r⟩ := h
    exact ⟨a, dx, C, oe, fs, u, e1, ef a f, by rw [eh]; exact o, z, v, n, ef dx f2, by rw [eh]; exact o2, l, Rep.trav ef eh hg r e⟩
  | .scr ns, x, _, h, e => by
    simp only [D.trav] at e
    cases e
    unfold Rep at h ⊢
    obtain ⟨a, e1, o⟩ := h
    exact ⟨a, e1, o.imp (fun ⟨f, o, z⟩ => ⟨ef a f, o, by rw [eh]; exact z⟩) fun z => z⟩
theorem RepL.trav (ef : ∀ a, T.fr a → T'.fr a) (eh : T'.H = T.H) {g : Nat → Option D} (hg : ∀ n v x, Rep K T (.ref n) v → g n = some x → Rep K T' x v) : ∀ {ds xs : List D} {vs : List V}, RepL K T ds vs → D.travL g ds = some xs → RepL K T' xs vs
  | [], xs, _, h, e => by simp only [D.travL] at e; cases e; unfold RepL at h ⊢; exact h
  | d :: ds, xs, _, h, e => by
    simp only [D.travL, Option.bind_eq_some_iff, Option.map_eq_some_iff] at e
    obtain ⟨y, e1, ys, e2, rfl⟩ := e
    unfold RepL at h ⊢
    obtain ⟨v, r, e3, h1, h2⟩ := h
    exact ⟨v, r, e3, Rep.trav ef eh hg h1 e1, RepL.trav ef eh hg h2 e2⟩
end
def Ob.isL : Ob → Prop
  | .lst _ => True
  | .dct _ _ => True
  | _ => False
/-- a frame's live objects put to rest -/
def Tr.rest (T : Tr) (S : Store) (b : Nat) : Tr := { T with fr := fun a => T.fr a ∨ ∃ n o, b ≤ n ∧ S[n]? = some o ∧ o.isL ∧ a = T.mu n, N := b }
theorem flat_rep {b : Nat} (s : SOk K T S) : ∀ (k : Nat) {d x : D} {v : V}, Rep K T d v → flat S b k d = some x → Rep K (T.rest S b) x v
  | 0, d, x, v, h, e => by
    simp only [flat] at e
    refine Rep.trav (T' := T.rest S b) (fun a z => .inl z) rfl (fun n v x hn e => ?_) h e
    split at e
    · cases e
      unfold Rep at hn ⊢
      exact ⟨by assumption, hn.2⟩
    · cases e
  | k + 1, d, x, v, h, e => by
    simp only [flat] at e
    refine Rep.trav (T' := T.rest S b) (fun a z => .inl z) rfl (fun n v x hn e => ?_) h e
    split at e
    · cases e
      unfold Rep at hn ⊢
      exact ⟨by assumption, hn.2⟩
    · rename_i hnb
      have hnb : b ≤ n := Nat.le_of_not_lt hnb
      unfold Rep at hn
      obtain ⟨_, rfl⟩ := hn
      split at e
      · rename_i xs hS
        simp only [Option.map_eq_some_iff] at e
        obtain ⟨ys, e, rfl⟩ := e
        obtain ⟨h1, h2, vs, h3, r⟩ := s.ob n _ hS
        unfold Rep
        exact ⟨_, vs, rfl, .inr ⟨n, _, hnb, hS, trivial, rfl⟩, h3, RepL.trav (T' := T.rest S b) (fun a z => .inl z) rfl (fun m v x hm e => flat_rep s k hm e) r e⟩
      · rename_i t kvs hS
        simp only [Option.map_eq_some_iff] at e
        obtain ⟨ys, e, rfl⟩ := e
        obtain ⟨h1, h2, u, vs, h3, dk, r⟩ := s.ob n _ hS
        unfold Rep
        exact ⟨_, u, vs, rfl, .inr ⟨n, _, hnb, hS, trivial, rfl⟩, .inl h3, dk, RepL.trav (T' := T.rest S b) (fun a z => .inl z) rfl (fun m v x hm e => flat_rep s k hm e) r e⟩
      · rename_i t kvs hS
        simp only [Option.map_eq_some_iff] at e
        obtain ⟨ys, e, rfl⟩ := e
        obtain ⟨h1, od, u, vs, h3, dk, r⟩ := s.ob n _ hS
        unfold Rep
        exact ⟨_, u, vs, rfl, .inl h1, .inr ⟨od, h3⟩, dk, RepL.trav (T' := T.rest S b) (fun a z => .inl z) rfl (fun m v x hm e => flat_rep s k hm e) r e⟩
      · cases e
theorem Ob.isL.on {o : Ob} (h : o.isL) : o.on := by cases o <;> first | trivial | exact h
theorem rest_ext {b : Nat} {T0 : Tr} (s : SOk K T S) (e : Ext T0 T) (hb : T0.N = b) : Ext T0 (T.rest S b) where
  fr := fun a h => .inl (e.fr a h)
  hp := e.hp
  pr := fun a h => by
    obtain ⟨p1, p2, p3⟩ := e.pr a h
    refine ⟨p1, p2, fun z => ?_⟩
    rcases z with z | ⟨n, o, _, ho, hl, rfl⟩
    · exact p3 z
    · have q := s.ob n o ho
      cases o with
      | lst xs => exact absurd p1 q.2.1
      | dct t kvs => exact absurd p1 q.2.1
      | lk _ _ => exact hl.elim
      | dead => exact hl.elim
  mu := e.mu
  N := by show T0.N ≤ b; rw [hb]; exact Nat.le_refl _
theorem rest_sok {b : Nat} (s : SOk K T S) (hb : b ≤ T.N) (hc : (S.take b).all (Ob.cl b) = true) : SOk K (T.rest S b) (S.take b) where
  len := by rw [List.length_take, s.len]; show min b T.N = b; omega
  ob := fun n o h => by
    have hn : n < b := by have := (List.getElem?_eq_some_iff.mp h).1; rw [List.length_take] at this; omega
    rw [List.getElem?_take_of_lt hn] at h
    have q := s.ob n o h
    have cl : Ob.cl b o = true := List.all_eq_true.mp hc o (by
      refine List.mem_of_getElem? (i := n) ?_
      rw [List.getElem?_take_of_lt hn]; exact h)
    have nf : o.on → ¬ T.fr (T.mu n) → ¬ (T.rest S b).fr (T.mu n) := fun hon h1 z => by
      rcases z with z | ⟨m, o', hm, ho', hl, e⟩
      · exact h1 z
      · have := s.inj n m o o' h ho' hon hl.on e
        omega
    cases o with
    | lst xs =>
      obtain ⟨h1, h2, vs, h3, r⟩ := q
      exact ⟨nf trivial h1, h2, vs, h3, r.low (T' := T.rest S b) (Nat.le_refl _) (fun a z => .inl z) rfl rfl cl⟩
    | dct t kvs =>
      obtain ⟨h1, h2, u, vs, h3, dk, r⟩ := q
      exact ⟨nf trivial h1, h2, u, vs, h3, dk, r.low (T' := T.rest S b) (Nat.le_refl _) (fun a z => .inl z) rfl rfl cl⟩
    | lk t kvs =>
      obtain ⟨h1, od, u, vs, h3, dk, r⟩ := q
      exact ⟨.inl h1, od, u, vs, h3, dk, r.low (T' := T.rest S b) (Nat.le_refl _) (fun a z => .inl z) rfl rfl cl⟩
    | dead => trivial
  inj := fun n m o q ho hq lo lq e => by
    have hn : n < b := by have := (List.getElem?_eq_some_iff.mp ho).1; rw [List.length_take] at this; omega
    have hm : m < b := by have := (List.getElem?_eq_some_iff.mp hq).1; rw [List.length_take] at this; omega
    rw [List.getElem?_take_of_lt hn] at ho
    rw [List.getElem?_take_of_lt hm] at hq
    exact s.inj n m o q ho hq lo lq e
  frn := fun a h => by
    rcases h with h | ⟨n, o, _, ho, hl, rfl⟩
    · exact s.frn a h
    · exact (s.ob n o ho).some hl.on
  prn := s.prn
  prk := s.prk
  dis := fun a h z => by
    rcases z with z | ⟨n, o, _, ho, hl, rfl⟩
    · exact s.dis a h z
    · have q := s.ob n o ho
      cases o with
      | lst xs => exact q.2.1 h
      | dct t kvs => exact q.2.1 h
      | lk _ _ => exact hl.elim
      | dead => exact hl.elim
/-- a frame's end -/
theorem fin_ok {T0 : Tr} {S0 : Store} {keep : Bool} {d : D} {v : V} {Q : VK} (s0 : SOk K T0 S0) (e : Ext T0 T) (s : SOk K T S) (r : Rep K T d v) (p : Post K T0 (finD keep S0.length d S) (kV' K Q)) : Q v T.H := by
  unfold finD at p
  split at p
  · exact p T e s v r
  · split at p
    · rename_i x hx
      split at p
      · rename_i hc
        rw [Bool.and_eq_true] at hc
        rw [s0.len] at p hx hc
        have hb : T0.N ≤ T.N := e.N
        exact p (T.rest S T0.N) (rest_ext s e rfl) (rest_sok s hb hc.2) v (flat_rep s 4 r hx)
      · exact p.elim
    · exact p.elim
end
/-! ## a def -/
section
variable {P : Program} {w : World} {K : Frag} {mg : Str → Option Value} {base : Heap}
theorem startE_ok {T : Tr} {ds : List D} {vs : List V} {df : Def} {N : List Str} (r : RepL K T ds vs) (hn : df.names = N.length) (hl : vs.length ≤ N.length) : REnv K T (startE df ds) (L2.start N vs) := by
  have hlen := r.length
  refine ⟨?_, fun i d e => ?_⟩
  · unfold startE L2.start
    rw [List.length_append, List.length_append, List.length_map, List.length_map, List.length_replicate, List.length_replicate, hlen, hn]
  · unfold startE at e
    have hi : i < ds.length := by
      by_cases hi : i < ds.length
      · exact hi
      · rw [List.getElem?_append_right (by simpa using hi), List.getElem?_replicate] at e
        split at e <;> cases e
    rw [List.getElem?_append_left (by simpa using hi), List.getElem?_map] at e
    cases h : ds[i]? with
    | none => rw [h] at e; cases e
    | some d' =>
      rw [h] at e
      cases e
      obtain ⟨v, e2, rv⟩ := r.get h
      refine ⟨v, ?_, rv⟩
      unfold L2.start
      rw [List.getElem?_append_left (by rw [List.length_map, ← hlen]; exact hi), List.getElem?_map, e2]
      rfl
theorem call_yes {CP : List Def} {fuel n i : Nat} {ds : List D} {S : Store} {df : Def} (hdf : CP[i]? = some df) (h : (call CP fuel n i ds S).yes) : ds.length = df.pars := by
  cases n with
  | zero => exact h.elim
  | succ n =>
    simp only [call, hdf] at h
    split at h
    · assumption
    · exact h.elim
/-- a frame's end by an exception -/
theorem finX_ok {T0 T : Tr} {S0 S : Store} {q : Nat} {d : D} {Q : VK} {E : XK} (s0 : SOk K T0 S0) (e : Ext T0 T) (s : SOk K T S) (p : PostX K E T0 (finX S0.length q d S) (kV' K Q)) : XD K T q d fun c dx => E c dx T.H := by
  unfold finX at p
  cases hd : finD false S0.length d S with
  | ok x S1 =>
    rw [hd] at p
    dsimp only at p
    unfold finD at hd
    split at hd
    · cases hd
      exact p T e s
    · split at hd
      · rename_i x' hx
        split at hd
        · rename_i hc
          cases hd
          rw [Bool.and_eq_true] at hc
          rw [s0.len] at p hx hc
          have hb : T0.N ≤ T.N := e.N
          intro C dx fs u xk fr o l rv
          exact p (T.rest S T0.N) (rest_ext s e rfl) (rest_sok s hb hc.2) C dx fs u xk (.inl fr) o l (flat_rep s 4 rv hx)
        · cases hd
      · cases hd
  | ex _ _ _ => rw [hd] at p; exact p.elim
  | no => rw [hd] at p; exact p.elim
/-- the body's reading from the call's -/
theorem body_of {CP : List Def} {fuel n i : Nat} {df : Def} (hdf : CP[i]? = some df) {T : Tr} {S : Store} {ds : List D} {Q : VK} {E : XK} (s : SOk K T S) (p : PostX K E T (call CP fuel (n + 1) i ds S) (kV' K Q)) :
    PostS K (fun c dx _ H => E c dx H) T (semB (call CP fuel n) fuel df.body (startE df ds) S) { nx := fun _ H' => Q .non H', rt := Q } := by
  simp only [call, hdf] at p
  have post : ∀ {r : R D}, PostX K E T r (kV' K Q) → (∀ q d S', r ≠ .ex q d S') → Post K T r (kV' K Q) := fun {r} h n => by
    cases r with
    | ok a S => exact h
    | ex q d S' => exact absurd rfl (n q d S')
    | no => exact h
  have nf : ∀ (k : Bool) (b : Nat) (d : D) (S' : Store) (q : Nat) (d2 : D) (S2 : Store), finD k b d S' ≠ .ex q d2 S2 := by
    intro k b d S' q d2 S2 h
    unfold finD at h
    split at h
    · cases h
    · split at h
      · split at h <;> cases h
      · cases h
  split at p
  · cases h : semB (call CP fuel n) fuel df.body (startE df ds) S with
    | nx ρ S' =>
      rw [h] at p
      exact fun T' σ' e' s' _ => fin_ok s e' s' (by unfold Rep; rfl) (post p (nf _ _ _ _))
    | rt d S' =>
      rw [h] at p
      exact fun T' v e' s' r => fin_ok s e' s' r (post p (nf _ _ _ _))
    | bk _ _ => rw [h] at p; exact p.elim
    | ct _ _ => rw [h] at p; exact p.elim
    | ex q d ρ S' =>
      rw [h] at p
      exact fun T' σ' e' s' _ => finX_ok s e' s' p
    | no => rw [h] at p; exact p.elim
  · exact p.elim
/-- a def's promise where no repr is under way: the room is asked, the guards stand empty -/
theorem fnG_of {k : Nat} {x qual : Str} {st : Stmt} {f : Addr} {fd : FuncData} {N ps : List Str} {sp : Sp} (F : L2.Fun K x qual st f fd) (S : FnScope N ps (defScope st)) (len : ∀ vs H Q E, sp vs H Q E → vs.length = ps.length)
    (hbody : ∀ (cdv : Value) (A : Around) (outer : List PySem.Env) (s : Shared) (H : Hp) (vs : List V) (Q : VK) (E : XK), Room k (A.deeper (envOfC qual (defScope st) s.heap.objs.size f cdv)) → A.guards = some [] → sp vs H Q E →
      ∃ t, PSs (cxOf (L2.CX P w) P w K mg base N qual (defScope st) f cdv A outer s H E) (defBody st) t ∧ t { nx := fun _ H' => Q .non H', rt := Q } (L2.start N vs) H) : FnG P w K mg base (k + 1) f fd ps sp := by
  obtain ⟨oc, od, kV, doc, pm, an, cdv, ct, osl, rfl, lk, hcd⟩ := F.ex
  refine ⟨len, fun A outer s H args us vs Q E room gd e0 hb rv hsp => ?_⟩
  have KS : K.In s.heap := e0.mod.kin.keeps fun b o e => (e0.bs b o e).1
  refine codeAny_call_function room.depth (KS _ _ lk) rfl S.co S.gen rfl (codeRec_of KS hcd) (hb _ _ _ _ (wpAny_newFunctionEnv_cells S.kind (fun y hy => ?_) fun env he s1 x => ?_))
  · rcases S.par y.1 (List.of_mem_zip (by exact hy : (y.1, y.2) ∈ _)).1 with q | q
    · exact Or.inl q
    · exact Or.inr ⟨q, cellsFrom_some _ _ _ (.inl q)⟩
  · subst he
    refine ⟨(e0.mod.nolimit.keeps fun b o e => (e0.bs b o e).1).keeps x.toInCall.keep, codeAny_func ?_⟩
    obtain ⟨t, ht, hq⟩ := hbody cdv A outer s H vs Q E (room.deeper _) gd hsp
    have I : L2.Inv (cxOf (L2.CX P w) P w K mg base N qual (defScope st) f cdv A outer s H E) [] (L2.start N vs) H s1 := inv_start S room.hd e0 (len _ _ _ _ hsp) rv x
    refine wpAny_mono (ht.run [] s1 (L2.start N vs) H _ I hq) (fun fl s' hs => ?_) fun e s' hs => hs
    match fl, hs with
    | .ret u, ⟨v, σ', H', J, rw', q⟩ => exact ⟨v, H', J.os, J.bare, J.base, J.hok, rw', q⟩
    | .next, ⟨σ', H', J, q⟩ => exact ⟨.non, H', J.os, J.bare, J.base, J.hok, rfl, q⟩
    | .brk, ⟨_, _, _, q⟩ => exact False.elim q
    | .cont, ⟨_, _, _, q⟩ => exact False.elim q
end
end LH

namespace LH
open PySem PySem.W L2 PySem.Spec PyProof.Rows
def MC.at (mc : MC) (N : List Str) (sc : Scope) : MC := { mc with N := N, sc := sc, fn := fun _ => true }
structure DefOk (K : Frag) (mg : Str → Option Value) (CP : List Def) (mc : MC) (x : Str) (i : Nat) : Prop where
  ex : ∃ (qual : Str) (st : Stmt) (f : Addr) (fd : FuncData) (N ps : List Str) (df : Def), L2.Fun K x qual st f fd ∧ nsIn K mainGlobals x = some (some (.ref f)) ∧ mg x = some (.ref f) ∧ FnScope N ps (defScope st) ∧ CP[i]? = some df ∧ df.names = N.length ∧ df.pars = ps.length ∧
    mB (mc.at N (defScope st)) df.body (defBody st) = true ∧ Binds K fd ps [] ∧ ∀ n ks p, (i, n, ks, p) ∈ mc.kw → KwB K fd ps n ks p
structure FnLv (P : Program) (w : World) (K : Frag) (mg : Str → Option Value) (base : Heap) (CP : List Def) (fuel : Nat) (mc : MC) (d : Nat) (x : Str) (i : Nat) : Prop where
  ex : ∃ (f : Addr) (fd : FuncData) (ps : List Str), FnG P w K mg base (d + 3) f fd ps (spOf K (call CP fuel d) i ps.length) ∧ nsIn K mainGlobals x = some (some (.ref f)) ∧ mg x = some (.ref f) ∧ keepIn K (.ref f) = true ∧ Binds K fd ps [] ∧
    (∀ n ks p, (i, n, ks, p) ∈ mc.kw → KwB K fd ps n ks p) ∧ ∃ df, CP[i]? = some df ∧ df.pars = ps.length
/-- what holds of the module -/
structure ModOk (P : Program) (K : Frag) (mg : Str → Option Value) (CP : List Def) (mc : MC) : Prop where
  defs : ∀ x i, mc.gs.lookup x = some i → DefOk K mg CP mc x i
  cst : ∀ x k, mc.cs.lookup x = some k → CstAt K mg x k
  blt : ∀ x ∈ mc.bl, mg x = none
  x : XAll P K mg mc.xs
theorem fn_one {P : Program} {w : World} {K : Frag} {mg : Str → Option Value} {base : Heap} {CP : List Def} {fuel : Nat} {mc : MC} (M : ModOk P K mg CP mc) (sys : ∃ o, base.get? sysModules = some o) {d i : Nat} (ih : ∀ (x : Str) (i : Nat), mc.gs.lookup x = some i → FnLv P w K mg base CP fuel mc d x i)
    {x qual : Str} {st : Stmt} {f : Addr} {fd : FuncData} {N ps : List Str} {df : Def} (F : L2.Fun K x qual st f fd) (S : FnScope N ps (defScope st)) (hdf : CP[i]? = some df) (hn : df.names = N.length) (hB : mB (mc.at N (defScope st)) df.body (defBody st) = true) :
    FnG P w K mg base (d + 1 + 3) f fd ps (spOf K (call CP fuel (d + 1)) i ps.length) := by
  refine fnG_of F S (fun vs H Q E z => z.1) fun cdv A outer s H vs Q E room gd hsp => ?_
  obtain ⟨hl, ds, T, St, rfl, so, r, p⟩ := hsp
  have g : Good (cxOf (L2.CX P w) P w K mg base N qual (defScope st) f cdv A outer s T.H E) (call CP fuel d) (mc.at N (defScope st)) := {
    N := rfl
    nd := S.nd
    sc := rfl
    fn := rfl
    kind := S.kind
    calm := rfl
    hu := by
      have := room.un
      show (A.deeper _).units + 65 < cLine
      omega
    hg := gd
    sys := sys
    cst := M.cst
    blt := M.blt
    rm := Room.mono (k := d + 3) room (by omega)
    x := M.x
    fns := fun y j hy => by
      obtain ⟨f2, fd2, ps2, F2, n2, m2, k2, b2, w2, df2, e1, e2⟩ := (ih y j hy).ex
      exact ⟨f2, fd2, ps2, d + 3, F2, room, m2, k2, b2, w2, fun ds S e => (call_yes e1 e).trans e2, n2⟩ }
  have hpl : ps.length ≤ N.length := by have := congrArg List.length S.pre; rw [List.length_take] at this; omega
  exact ⟨_, snd_B (fuel := fuel) df.body (W := fun c dx _ H => E c dx H) (L2.takes_of rfl rfl rfl rfl) ⟨rfl, rfl, rfl⟩ g (passes_of rfl) _ hB, T, startE df ds, St, rfl, so, startE_ok r hn (by rw [hl]; exact hpl), body_of hdf so p⟩
theorem lv_all {P : Program} {w : World} {K : Frag} {mg : Str → Option Value} {base : Heap} {CP : List Def} {fuel : Nat} {mc : MC} (M : ModOk P K mg CP mc) (sys : ∃ o, base.get? sysModules = some o) : ∀ (d : Nat) (x : Str) (i : Nat), mc.gs.lookup x = some i → FnLv P w K mg base CP fuel mc d x i
  | 0, x, i, h => by
    obtain ⟨qual, st, f, fd, N, ps, df, F, n0, hm, S, hdf, hn, hp, hB, hb, hkw⟩ := (M.defs x i h).ex
    refine ⟨f, fd, ps, ⟨fun vs H Q E z => z.1, fun A outer s H args us vs Q E _ _ _ _ _ hsp => ?_⟩, n0, hm, F.kp, hb, hkw, df, hdf, hp⟩
    obtain ⟨_, ds, T, S, _, _, _, p⟩ := hsp
    exact (show False from p).elim
  | d + 1, x, i, h => by
    obtain ⟨qual, st, f, fd, N, ps, df, F, n0, hm, S, hdf, hn, hp, hB, hb, hkw⟩ := (M.defs x i h).ex
    exact ⟨f, fd, ps, fn_one M sys (lv_all M sys d) F S hdf hn hB, n0, hm, F.kp, hb, hkw, df, hdf, hp⟩
/-! ## the law, called behind the top -/
section
variable {P : Program} {w : World} {K : Frag} {mg mb : Str → Option Value} {k n fuel i : Nat} {fa a : Addr} {fd : FuncData} {x : Str} {s₁ : Shared} {vs : List Value} {ns : List Int} {CP : List Def}
/-- the script alone is seen, if at all -/
def seeS (a : Addr) (o : Obj) (zs : List V) (see : Bool) : Hp := fun b => if see = true ∧ b = a then some (.frz o (.lst zs)) else none
theorem run_at (see : Bool) {o : Obj} (ho : o = { cls := .type "list", data := .seq vs.toArray }) (hk : K.lookup a = if see then none else some o) (KX : K.In s₁.heap) (hns : s₁.heap.Ns mainGlobals mg) (hb : s₁.heap.Ns builtinsNs mb) (hbb : ∀ x : Str, x ≠ "__name__" → mb x = bootBuiltins x)
    (hlim : s₁.heap.NoLimit) (hsys : ∃ mm, s₁.heap.Ns sysModules mm) (hg : s₁.gens = #[]) (ha : s₁.heap.get? a = some o) (hi : IntsAre vs ns) (hl : ns.length ≤ sizeLine) (hr : Room k callerA)
    (F : ∀ base : Heap, K.In base → base.Ns mainGlobals mg → (∃ o, base.get? sysModules = some o) → FnG P w K mg base k fa fd [x] (spOf K (call CP fuel n) i 1)) (bind : ∀ (s : Shared) (u : Value), BindsTo s fd ⟨[u], []⟩ [(x, u)])
    (res : ∃ S, call CP fuel n i [.scr ns] [] = .ok (.bl true) S) :
    codeAny (model P w) callerA (.call (.ref fa) ⟨[.ref a], []⟩) (fun r s' => r = .ok (.ret (.bool true)) ∧ OldK s₁.heap s'.heap ∧ s'.os = s₁.os ∧ AllBare s'.gens) s₁ := by
  have ri := L2.vals_ints hi
  obtain ⟨H, hH⟩ : ∃ H, H = seeS a o (ns.map V.int) see := ⟨_, rfl⟩
  have only : ∀ b u, H b = some u → see = true ∧ b = a ∧ u = .frz o (.lst (ns.map V.int)) := fun b u e => by
    rw [hH] at e
    unfold seeS at e
    split at e
    · rename_i c
      cases e
      exact ⟨c.1, c.2, rfl⟩
    · cases e
  -- what is written in a namespace, or is the module's, stays in view
  have view : ∀ {b : Addr} {q : Obj}, s₁.heap.get? b = some q → q ≠ o → (hidT s₁.heap H).get? b = some q := fun {b q} e n => hidT_get e (by
    cases h : H b with
    | none => rfl
    | some u =>
      obtain ⟨_, rfl, _⟩ := only b u h
      rw [ha] at e
      cases e
      exact absurd rfl n)
  have viewN : ∀ {b : Addr} {m : Str → Option Value}, s₁.heap.Ns b m → (hidT s₁.heap H).Ns b m := fun {b m} ⟨q, es, ep, e, d, r⟩ => ⟨q, es, ep, view e (fun z => by
    rw [z, ho] at d
    exact Data.noConfusion d), d, r⟩
  have KB : K.In (hidT s₁.heap H) := fun b q e => hidT_get (KX b q e) (by
    cases h : H b with
    | none => rfl
    | some u =>
      obtain ⟨h1, rfl, _⟩ := only b u h
      rw [h1] at hk
      rw [hk] at e
      cases e)
  have hSys : ∃ q, (hidT s₁.heap H).get? sysModules = some q := by
    obtain ⟨mm, h⟩ := hsys
    obtain ⟨q, _, _, e, _⟩ := viewN h
    exact ⟨q, e⟩
  have okH : HOk P w H s₁.heap := fun b u e => by
    obtain ⟨_, rfl, rfl⟩ := only b u e
    exact ⟨ha, by rw [List.length_map]; exact hl, vs, _, ri, by rw [ha, ho]⟩
  have e0 : Env0 P w K mg (hidT s₁.heap H) callerA [] s₁ H := {
    frames := rfl
    mod := ⟨KB, viewN hns, ⟨mb, viewN hb, hbb⟩, let ⟨m, h1, h2⟩ := hlim; ⟨m, viewN h1, h2⟩⟩
    bs := fun b q e => of_hidT e
    bsz := Nat.le_of_eq (hidT_size _ _)
    funs := trivial
    frf := fun b z => nomatch (show b ∈ ([] : List Addr) from z)
    hok := okH
    bare := .of_eq hg }
  have hsp : spOf K (call CP fuel n) i 1 [.ref a] H (fun v _ => v = .bl true) E0 := by
    obtain ⟨S, eS⟩ := res
    refine ⟨rfl, [.scr ns], ⟨H, fun b => H b ≠ none, fun _ => False, fun _ => 0, 0⟩, [], rfl, ⟨rfl, fun n q z => by simp at z, fun n m q r z => by simp at z, fun b z => z, fun b z => z.elim, fun b u z => z.elim, fun b z => z.elim⟩, .cons ?_ .nil, ?_⟩
    · unfold Rep
      refine ⟨a, rfl, ?_⟩
      cases see with
      | true =>
        have e : H a = some (.frz o (.lst (ns.map V.int))) := by rw [hH]; exact if_pos ⟨rfl, rfl⟩
        exact .inl ⟨by show H a ≠ none; rw [e]; simp, o, e⟩
      | false =>
        subst ho
        exact .inr fun H' => .inr ⟨_, vs.toArray, _, by simpa using hk, rfl, rfl, rfl, by rw [List.size_toArray, hi.length]; exact hl, by simpa using ri⟩
    · rw [eS]
      intro T' _ _ v r
      exact r.bl
  refine codeAny_mono ((F _ KB (viewN hns) hSys).run callerA [] s₁ H ⟨[.ref a], []⟩ [.ref a] [.ref a] _ _ hr rfl e0 (bind s₁ (.ref a)) (.cons rfl .nil) hsp) fun r s' h => ?_
  match r, h with
  | .ok (.ret u), ⟨v, H', os, bare, un, hok', ru, q⟩ =>
    have q : v = .bl true := q
    subst q
    obtain rfl : u = Value.bool true := ru
    refine ⟨rfl, OldK.of_keep fun b q e => ?_, os, bare⟩
    cases h : H b with
    | none => exact un.keep b q e h (fun z => nomatch (show b ∈ ([] : List Addr) from z)) (fun z => nomatch (show b ∈ ([] : List Addr) from z))
    | some u =>
      obtain ⟨_, rfl, rfl⟩ := only b u h
      have e2 := (hok' _ _ (un.frzs _ _ _ h)).1
      rw [ha] at e
      cases e
      exact e2
  | .ok .next, h => exact False.elim h
  | .ok .brk, h => exact False.elim h
  | .ok .cont, h => exact False.elim h
  | .error e, ⟨_, _, _, _, _, _, _, _, _, _, _, _, z⟩ => exact False.elim z
theorem walk_G {l : PySem.W.OpenLaw} {n dp : Nat} {q : Program} {loose : List Str} {XP : (Str → Option Value) → Heap → Prop} {YP : World → Heap → Prop} {d : DefRec} {K : Params → Frag} {k fuel i : Nat} {x : Str} {CP : List Def}
    (hn : l.most = some n) (hn2 : n ≤ sizeLine) (hdf : d.params.defaults = []) (hr : Room k callerA) (hq : importsNone q = true) (hY : ∀ (w : World) (h : Heap), YP w h → (K w.params).In h)
    (F : ∀ (w : World) (mg : Str → Option Value) (fa : Addr) (h : Heap), (K w.params).In h → h.Ns mainGlobals mg → mg d.name = some (.ref fa) → ∃ fd : FuncData, (∀ (s : Shared) (u : Value), BindsTo s fd ⟨[u], []⟩ [(x, u)]) ∧
      ∀ base : Heap, (K w.params).In base → base.Ns mainGlobals mg → (∃ o, base.get? sysModules = some o) → FnG l.prog w (K w.params) mg base k fa fd [x] (spOf (K w.params) (call CP fuel dp) i 1))
    (res : ∀ ns : List Int, ns.length ≤ n → ∃ S, call CP fuel dp i [.scr ns] [] = .ok (.bl true) S) : WalkO q loose XP YP l.row.toRowW d [] (fun f vs => PySem.call f vs) := by
  refine Att.attach_call hn hdf fun w s₀ s₁ mg mb fa o pm cd doc a vs ns G Y ho hd hcd hmg hobj hints hlen hg => ?_
  have KX := hY w _ Y
  obtain ⟨fd, bind, hF⟩ := F w mg fa _ KX G.T.g hmg
  have hs : ∃ mm, s₁.heap.Ns sysModules mm := let ⟨mm, h, _⟩ := (G.T.seer hq).mods; ⟨mm, h⟩
  have go := fun see hk => run_at (P := l.prog) (w := w) (K := K w.params) (mb := mb) (k := k) (n := dp) (fuel := fuel) (i := i) (CP := CP) see rfl hk KX G.T.g G.T.b G.T.builtins G.T.nolimit hs hg hobj hints (Nat.le_trans hlen hn2) hr hF bind (res ns hlen)
  cases hk : (K w.params).lookup a with
  | none => exact go true hk
  | some q =>
    have e := KX a q hk
    rw [hobj] at e
    cases e
    exact go false hk
end
/-! ## making a def's facts -/
theorem defOk_mk {K : Frag} {h : Heap} {mg : Str → Option Value} {CP : List Def} {mc : MC} {x : Str} {i : Nat} {st : Stmt} {N ps : List Str} {df : Def} {f : Addr} {oc : Value} {od an : Option Addr} {osl : Array (Option Value)} {kV doc pm cdv ct : Value}
    (KX : K.In h) (G : h.Ns mainGlobals mg) (S : FnScope N ps (defScope st)) (hdf : CP[i]? = some df) (hn : df.names = N.length) (hp : df.pars = ps.length) (hB : mB (mc.at N (defScope st)) df.body (defBody st) = true)
    (hb : ∀ (kV doc pm : Value) (an : Option Addr) (cdv ct : Value) (us : List Value), us.length = ps.length → bindArgs (fnOf x x (defArgs st) (defBody st) (defScope st) .none kV doc pm an cdv ct) ⟨us, []⟩ = pure (ps.zip us))
    (hkw : ∀ n ks p, (i, n, ks, p) ∈ mc.kw → ∀ (kV doc pm : Value) (an : Option Addr) (cdv ct : Value) (us ws : List Value), us.length = n → ws.length = ks.length → bindArgs (fnOf x x (defArgs st) (defBody st) (defScope st) .none kV doc pm an cdv ct) ⟨us, ks.zip ws⟩ = pure (ps.zip (p.filterMap fun i => (us ++ ws)[i]?)))
    (a : nsIn K mainGlobals x = some (some (.ref f))) (l : K.lookup f = some ⟨oc, od, .func (fnOf x x (defArgs st) (defBody st) (defScope st) .none kV doc pm an cdv ct), osl⟩) (c : codeIn K cdv x = true) (k : keepIn K (.ref f) = true) : DefOk K mg CP mc x i := by
  have F := L2.fun_mk (st := st) l c k
  exact ⟨x, st, f, _, N, ps, df, F, a, mg_of KX G a, S, hdf, hn, hp, hB, F.binds hb, fun n ks p hm s us ws _ h1 h2 => .of_eq (hkw n ks p hm kV doc pm an cdv ct us ws h1 h2)⟩
/-- one by one -/
def AllG (F : Str → Nat → Prop) : List (Str × Nat) → Prop
  | [] => True
  | p :: r => F p.1 p.2 ∧ AllG F r
theorem AllG.get {F : Str → Nat → Prop} : ∀ {l : List (Str × Nat)}, AllG F l → ∀ x i, l.lookup x = some i → F x i
  | [], _, x, i, h => by simp at h
  | (y, j) :: r, a, x, i, h => by
    rw [List.lookup_cons] at h
    split at h
    · rename_i e
      cases h
      have e : x = y := by simpa using e
      rw [e]; exact a.1
    · exact AllG.get a.2 x i h
def AllN (K : Frag) : List Str → Prop
  | [] => True
  | x :: r => nsIn K mainGlobals x = some none ∧ AllN K r
theorem AllN.get {K : Frag} {h : Heap} {mg : Str → Option Value} (KX : K.In h) (G : h.Ns mainGlobals mg) : ∀ {l : List Str}, AllN K l → ∀ x ∈ l, mg x = none
  | [], _, x, m => by simp at m
  | y :: r, a, x, m => by
    rcases List.mem_cons.mp m with rfl | m
    · exact mg_none_of KX G a.1
    · exact AllN.get KX G a.2 x m
def AllC (F : Str → Const → Prop) : List (Str × Const) → Prop
  | [] => True
  | p :: r => F p.1 p.2 ∧ AllC F r
theorem AllC.get {F : Str → Const → Prop} : ∀ {l : List (Str × Const)}, AllC F l → ∀ x i, l.lookup x = some i → F x i
  | [], _, x, i, h => by simp at h
  | (y, j) :: r, a, x, i, h => by
    rw [List.lookup_cons] at h
    split at h
    · rename_i e
      cases h
      have e : x = y := by simpa using e
      rw [e]; exact a.1
    · exact AllC.get a.2 x i h
theorem cst_str {K : Frag} {h : Heap} {mg : Str → Option Value} {x s : Str} {t : Tok} (KX : K.In h) (G : h.Ns mainGlobals mg) (y : nsIn K mainGlobals x = some (some (.str s t))) : CstAt K mg x (.str s) := ⟨_, .str s, mg_of KX G y, ⟨t, rfl⟩, fun _ => Rep.mk_str⟩
theorem cst_int {K : Frag} {h : Heap} {mg : Str → Option Value} {x : Str} {s : Int} {t : Tok} (KX : K.In h) (G : h.Ns mainGlobals mg) (y : nsIn K mainGlobals x = some (some (.int s t))) : CstAt K mg x (.int s) := ⟨_, .int s, mg_of KX G y, ⟨t, rfl⟩, fun _ => Rep.mk_int⟩
/-! ## the program's own exceptions -/
section
variable {K : Frag} {D fI C N : Addr} {nm q : Str} {bs sub : List Value} {sn : List Str} {ab : Bool} {col : Option Bool} {dd : Option Addr} {k0 k1 k2 k3 k5 : Option Value}
theorem xcls_mk (h : K.lookup C = some (excClassObj nm q C N bs (.ref D :: HandSPX.veTail) true sn sub ab col dd k0 k1 k2 k3 k5 "ValueError.__new__")) (ini : findIn K (.ref C) "__init__" = some (some (.ref fI))) (sa : findIn K (.ref C) "__setattr__" = some (some (.builtin "object.__setattr__")))
    (va : findIn K (.ref C) "value" = some none) (ga : findIn K (.ref C) "__getattribute__" = some (some (.builtin "BaseException.__getattribute__"))) (gg : findIn K (.ref C) "__getattr__" = some none) (cl : findIn K (.ref C) "__class__" = some (some (.builtin "object.__class__")))
    (sp : specialIn K (.builtin "object.__class__") "__get__" = some (some (.builtin "getset_descriptor.__get__"))) (tk : takesIn K (.builtin "object.__class__") = some true) (kC : keepIn K (.ref C) = true) (ty : typeIn K (.ref fI) = some (.type "function")) (ne : C ≠ D) : XCls K D fI nm C := by
  have hc : ∃ cd, clsIn K C = some cd ∧ cd.mro = .ref C :: .ref D :: HandSPX.veTail ∧ cd.hasDict = true := ⟨_, by unfold clsIn; rw [h] <;> rfl, rfl, rfl⟩
  obtain ⟨cd, c1, c2, c3⟩ := hc
  have mro : ∀ b : Value, (Value.ref C :: .ref D :: HandSPX.veTail).contains b = true → mroIn K C b = some true := fun b hb => by
    unfold mroIn
    rw [c1, Option.bind_some, c2, hb]
    rfl
  refine ⟨⟨_, _, _, _, _, _, _, _, _, _, _, _, _, h⟩, ini, sa, va, ga, gg, cl, sp, tk, mro _ ?_, mro _ ?_, ?_, kC, mro _ ?_, mro _ ?_, ?_, ty, ne⟩
  · simp [HandSPX.veTail]
  · simp [HandSPX.veTail]
  · show (K.lookup C).map (·.cls) = _
    rw [h]; rfl
  · simp
  · simp [HandSPX.veTail]
  · unfold hasDictIn
    rw [c1, Option.any_some]; exact c3
end
/-- one by one -/
def AllX (F : Nat → Prop) : List Nat → Prop
  | [] => True
  | k :: r => (k ≠ 0 → F k) ∧ AllX F r
theorem AllX.get {F : Nat → Prop} : ∀ {l : List Nat}, AllX F l → ∀ k ∈ l, k ≠ 0 → F k
  | [], _, k, h, _ => by cases h
  | j :: r, a, k, h, n => by
    rcases List.mem_cons.mp h with rfl | h
    · exact a.1 n
    · exact AllX.get a.2 k h n
theorem xall_nil {P : Program} {K : Frag} {mg : Str → Option Value} : XAll P K mg [] := ⟨fun h => absurd h (by simp), fun k h => absurd h (by simp), fun h => absurd h (by simp)⟩
theorem xall_mk {P : Program} {K : Frag} {mg : Str → Option Value} {h : Heap} {D fI : Addr} {xs : List Nat} (KX : K.In h) (G : h.Ns mainGlobals mg) (xb : XBase P K D fI) (xt : XTop K D) (hs : nsIn K mainGlobals "super" = some none) (lt : ∀ k ∈ xs, k < 30)
    (hc : AllX (fun k => ∃ C, XCls K D fI (xName k) C ∧ nsIn K mainGlobals (xName k) = some (some (.ref C))) xs) : XAll P K mg xs where
  top := fun _ => ⟨D, xt, mg_of KX G xt.at_⟩
  own := fun k hk n => by
    obtain ⟨C, xc, hn⟩ := hc.get k hk n
    exact ⟨D, fI, C, xb, xc, ⟨hn, ⟨D, fI, xc, xt⟩, lt k hk⟩, mg_of KX G hn⟩
  sup := fun _ => mg_none_of KX G hs
theorem xtop_mk {K : Frag} {D : Addr} {cd : ClassData} (h : nsIn K mainGlobals (xName 0) = some (some (.ref D))) (c : clsIn K D = some cd) (t : typeIn K (.ref D) = some (.type "type")) (e : subIn K (.ref D) (.type "BaseException") = some true) : XTop K D := ⟨h, by rw [c]; rfl, t, e⟩
theorem xbase_mk {P : Program} {K : Frag} {D fI : Addr} {qual : Str} {st : Stmt} {p0 p1 p2 p3 p4 p5 p6 p7 p8 p9 : Pos} {dV kV doc pm : Value} {an : Option Addr} {cda cc : Addr} {ct oc : Value} {od : Option Addr} {osl : Array (Option Value)} {vs : Array Value} {file : Str} {tf : Tok} {ccl cl : Value} {cdd cld : Option Addr} {ccs csl : Array (Option Value)} {cdD : ClassData} {ar : Arg}
    (hst : defBody st = xiBody p0 p1 p2 p3 p4 p5 p6 p7 p8 p9) (hl : (p2.endLine == p4.line) = true) (l1 : K.lookup fI = some ⟨oc, od, .func (ksFn "__init__" qual (defArgs st) (defBody st) (defScope st) dV kV doc pm an (.ref cda) ct cc), osl⟩) (l2 : codeIn K (.ref cda) qual = true) (l3 : K.lookup cda = some ⟨ccl, cdd, .fields vs, ccs⟩)
    (l4 : vs[2]? = some (.str file tf)) (l5 : ((P.main.file : Str) == file) = true) (l6 : K.lookup cc = some ⟨cl, cld, .cell (some (.ref D)), csl⟩) (l7 : clsIn K D = some cdD) (h1 : ((defArgs st).posonlyargs ++ (defArgs st).args).head? = some ar) (h2 : ar.arg = "self") (h3 : (P.main.scope.names.lookup ("super" : Str)).isSome = false)
    (h4 : (defScope st).names.lookup ("super" : Str) = some .globalImplicit) (h5 : (defScope st).names.lookup ("__class__" : Str) = some .free) (h6 : (defScope st).names.lookup ("self" : Str) = some .local) (h7 : (defScope st).names.lookup ("value" : Str) = some .local) (h8 : ∀ x ∈ (defScope st).names, x.2 ≠ .cell) (h9 : (defScope st).kind = .function) (h10 : (defScope st).isCoroutine = false) (h11 : (defScope st).isGenerator = false)
    (hb : ∀ (oc2 : Value) (dV kV doc pm : Value) (an : Option Addr) (cda cc : Addr) (ct : Value) (u1 u2 : Value), dV = .none → bindArgs (ksFn "__init__" qual (defArgs st) (defBody st) (defScope st) dV kV doc pm an (.ref cda) ct cc) ⟨[u1, u2], []⟩ = (pure [(("self" : Str), u1), (("value" : Str), u2)] : Sem (List (Str × Value)))) (hdV : dV = .none) (par : nsIn K cStatics "thirdparty.any" = some none) : XBase P K D fI where
  ex := ⟨qual, defArgs st, p0, p1, p2, p3, p4, p5, p6, p7, p8, p9, defScope st, dV, kV, doc, pm, an, cda, cc, ct, oc, od, osl, vs, file, tf, ccl, cl, cdd, cld, ccs, csl, cdD, ar, by rw [← hst]; exact l1, l2, l3, l4, l5, l6, l7, h1, h2, h3, hl, h4, h5, h6, h7, h8, h9, h10, h11, fun u1 u2 => by rw [← hst]; exact hb .none _ _ _ _ _ _ _ _ _ _ hdV⟩
  par := par
end LH

namespace LH
open PySem hiding call truthy
open PySem.W L2 PySem.Spec PyProof.Rows
section
@[simp] theorem isX_loc {i} : E.isX (.loc i) = false := id rfl
@[simp] theorem isX_cst {k} : E.isX (.cst k) = false := id rfl
@[simp] theorem isX_glb {x} {k} : E.isX (.glb x k) = false := id rfl
@[simp] theorem isX_tup {es} : E.isX (.tup es) = false := id rfl
@[simp] theorem isX_lst {m} {es} : E.isX (.lst m es) = false := id rfl
@[simp] theorem isX_dct {m} {t} : E.isX (.dct m t) = false := id rfl
@[simp] theorem isX_bin {m} {op} {a} {b} : E.isX (.bin m op a b) = false := id rfl
@[simp] theorem isX_neg {a} : E.isX (.neg a) = false := id rfl
@[simp] theorem isX_cmp {op} {a} {b} : E.isX (.cmp op a b) = false := id rfl
@[simp] theorem isX_chain {o1} {o2} {a} {b} {d} : E.isX (.chain o1 o2 a b d) = false := id rfl
@[simp] theorem isX_not {a} : E.isX (.not a) = false := id rfl
@[simp] theorem isX_and {a} {b} : E.isX (.and a b) = false := id rfl
@[simp] theorem isX_or {a} {b} : E.isX (.or a b) = false := id rfl
@[simp] theorem isX_ite {t} {a} {b} : E.isX (.ite t a b) = false := id rfl
@[simp] theorem isX_ix {a} {b} : E.isX (.ix a b) = false := id rfl
@[simp] theorem isX_sl {m} {a} {lo} {hi} : E.isX (.sl m a lo hi) = false := id rfl
@[simp] theorem isX_slr {m} {a} : E.isX (.slr m a) = false := id rfl
@[simp] theorem isX_nop  : E.isX (.nop ) = false := id rfl
@[simp] theorem isX_callC {f} {es} : E.isX (.callC f es) = false := id rfl
@[simp] theorem isX_bi {m} {b} {es} : E.isX (.bi m b es) = false := id rfl
@[simp] theorem isX_lrng1 {m} {a} : E.isX (.lrng1 m a) = false := id rfl
@[simp] theorem isX_lrng2 {m} {a} {b} : E.isX (.lrng2 m a b) = false := id rfl
@[simp] theorem isX_isi {a} {ts} {o} : E.isX (.isi a ts o) = false := id rfl
@[simp] theorem isX_me {m} {k} {a} {es} : E.isX (.me m k a es) = false := id rfl
@[simp] theorem isX_lc {m} {own} {elt} {g} {it} {cs} : E.isX (.lc m own elt g it cs) = false := id rfl
@[simp] theorem isX_lc2 {m} {own} {elt} {g} {it} {cs} {g1} {it1} {cs1} : E.isX (.lc2 m own elt g it cs g1 it1 cs1) = false := id rfl
@[simp] theorem isX_dd {m} {es} : E.isX (.dd m es) = false := id rfl
@[simp] theorem isX_ddt {m} {es} : E.isX (.ddt m es) = false := id rfl
@[simp] theorem isX_sst {m} {a} : E.isX (.sst m a) = false := id rfl
@[simp] theorem isX_lset {a} : E.isX (.lset a) = false := id rfl
@[simp] theorem isX_dc {m} {own} {ke} {ve} {g} {it} {cs} : E.isX (.dc m own ke ve g it cs) = false := id rfl
@[simp] theorem isX_fnv {x} : E.isX (.fnv x) = false := id rfl
@[simp] theorem isX_val {e} : E.isX (.val e) = false := id rfl
@[simp] theorem isX_isx {e} {c2} : E.isX (.isx e c2) = false := id rfl
@[simp] theorem isX_call {f} {es} : E.isX (.call f es) = true := id rfl
@[simp] theorem isX_callk {f} {es} {ks} {p} : E.isX (.callk f es ks p) = true := id rfl
@[simp] theorem isX_cv {tab} {e} {es} : E.isX (.cv tab e es) = true := id rfl
end
section
variable (c : Nat → List D → Store → R D) (fuel : Nat)
@[simp] theorem q_semE_loc (i : Nat) (ρ : Env) (S : Store) : semE c (.loc i) ρ S = .opt (ρ.getD i none) S := by first | (simp only [semE]; done) | (simp only [semE]; rfl)
@[simp] theorem q_semE_cst (k : Const) (ρ : Env) (S : Store) : semE c (.cst k) ρ S = .ok (constD k) S := by first | (simp only [semE]; done) | (simp only [semE]; rfl)
@[simp] theorem q_semE_glb (w0) (k : Const) (ρ : Env) (S : Store) : semE c (.glb w0 k) ρ S = .ok (constD k) S := by first | (simp only [semE]; done) | (simp only [semE]; rfl)
@[simp] theorem q_semE_nop  (ρ : Env) (S : Store) : semE c (.nop) ρ S = .ok .non S := by first | (simp only [semE]; done) | (simp only [semE]; rfl)
@[simp] theorem q_semE_tup (es : EL) (ρ : Env) (S : Store) : semE c (.tup es) ρ S = (semL c es ρ S).bind fun xs S' => mkT xs S' := by first | (simp only [semE]; done) | (simp only [semE]; rfl)
@[simp] theorem q_semE_lst (m : Bool) (es : EL) (ρ : Env) (S : Store) : semE c (.lst m es) ρ S = (semL c es ρ S).bind fun xs S' => mkL m xs S' := by first | (simp only [semE]; done) | (simp only [semE]; rfl)
@[simp] theorem q_semE_dct (m : Bool) (t : Bool) (ρ : Env) (S : Store) : semE c (.dct m t) ρ S = mkD m t [] S := by first | (simp only [semE]; done) | (simp only [semE]; rfl)
@[simp] theorem q_semE_bin (m : Bool) (op : BOp) (a : E) (b : E) (ρ : Env) (S : Store) : semE c (.bin m op a b) ρ S = (semE c a ρ S).bind fun x S1 => (semE c b ρ S1).bind fun y S2 => binD m op x y S2 := by first | (simp only [semE]; done) | (simp only [semE]; rfl)
@[simp] theorem q_semE_neg (a : E) (ρ : Env) (S : Store) : semE c (.neg a) ρ S = (semE c a ρ S).bind fun x S1 => match x with
    | .int i => .ok (.int (-i)) S1
    | _ => .no := by first | (simp only [semE]; done) | (simp only [semE]; rfl)
@[simp] theorem q_semE_cmp (op : COp) (a : E) (b : E) (ρ : Env) (S : Store) : semE c (.cmp op a b) ρ S = (semE c a ρ S).bind fun x S1 => (semE c b ρ S1).bind fun y S2 => .opt ((cmpD S2 op x y).map .bl) S2 := by first | (simp only [semE]; done) | (simp only [semE]; rfl)
@[simp] theorem q_semE_chain (o1 : COp) (o2 : COp) (a : E) (b : E) (d : E) (ρ : Env) (S : Store) : semE c (.chain o1 o2 a b d) ρ S = (semE c a ρ S).bind fun x S1 => (semE c b ρ S1).bind fun y S2 => match cmpD S2 o1 x y with
    | some true => (semE c d ρ S2).bind fun z S3 => .opt ((cmpD S3 o2 y z).map .bl) S3
    | some false => .ok (.bl false) S2
    | none => .no := by first | (simp only [semE]; done) | (simp only [semE]; rfl)
@[simp] theorem q_semE_not (a : E) (ρ : Env) (S : Store) : semE c (.not a) ρ S = (semE c a ρ S).bind fun x S1 => .opt ((LH.truthy S1 x).map fun k => .bl (!k)) S1 := by first | (simp only [semE]; done) | (simp only [semE]; rfl)
@[simp] theorem q_semE_and (a : E) (b : E) (ρ : Env) (S : Store) : semE c (.and a b) ρ S = (semE c a ρ S).bind fun x S1 => match LH.truthy S1 x with
    | some true => semE c b ρ S1
    | some false => .ok x S1
    | none => .no := by first | (simp only [semE]; done) | (simp only [semE]; rfl)
@[simp] theorem q_semE_or (a : E) (b : E) (ρ : Env) (S : Store) : semE c (.or a b) ρ S = (semE c a ρ S).bind fun x S1 => match LH.truthy S1 x with
    | some true => .ok x S1
    | some false => semE c b ρ S1
    | none => .no := by first | (simp only [semE]; done) | (simp only [semE]; rfl)
@[simp] theorem q_semE_ite (t : E) (a : E) (b : E) (ρ : Env) (S : Store) : semE c (.ite t a b) ρ S = (semE c t ρ S).bind fun x S1 => match LH.truthy S1 x with
    | some true => semE c a ρ S1
    | some false => semE c b ρ S1
    | none => .no := by first | (simp only [semE]; done) | (simp only [semE]; rfl)
@[simp] theorem q_semE_ix (a : E) (b : E) (ρ : Env) (S : Store) : semE c (.ix a b) ρ S = (semE c a ρ S).bind fun x S1 => (semE c b ρ S1).bind fun y S2 => .opt (ixD x y S2) S2 := by first | (simp only [semE]; done) | (simp only [semE]; rfl)
@[simp] theorem q_semE_sl (m : Bool) (a : E) (lo : E) (hi : E) (ρ : Env) (S : Store) : semE c (.sl m a lo hi) ρ S = (semE c a ρ S).bind fun x S1 => (semE c lo ρ S1).bind fun l S2 => (semE c hi ρ S2).bind fun h S3 => match partE lo.isNop l, partE hi.isNop h with
    | some l', some h' => slD m x l' h' S3
    | _, _ => .no := by first | (simp only [semE]; done) | (simp only [semE]; rfl)
@[simp] theorem q_semE_slr (m : Bool) (a : E) (ρ : Env) (S : Store) : semE c (.slr m a) ρ S = (semE c a ρ S).bind fun x S1 => match lstD S1 x with
    | some xs => mkL m xs.reverse S1
    | none => .no := by first | (simp only [semE]; done) | (simp only [semE]; rfl)
@[simp] theorem q_semE_call (f : Nat) (es : EL) (ρ : Env) (S : Store) : semE c (.call f es) ρ S = (semL c es ρ S).bind fun xs S1 => (c f xs S1).noex := by first | (simp only [semE]; done) | (simp only [semE]; rfl)
@[simp] theorem q_semE_callC (f : Nat) (es : EL) (ρ : Env) (S : Store) : semE c (.callC f es) ρ S = (semL c es ρ S).bind fun xs S1 => if D.clL 0 xs then match c f xs [] with
    | .ok d [] => if d.cl 0 then .ok d S1 else .no
    | _ => .no else .no := by first | (simp only [semE]; done) | (simp only [semE]; rfl)
@[simp] theorem q_semE_callk (f : Nat) (es : EL) (ks : EL) (p : List Nat) (ρ : Env) (S : Store) : semE c (.callk f es ks p) ρ S = (semL c es ρ S).bind fun xs S1 => (semL c ks ρ S1).bind fun ys S2 => match p.mapM fun i => (xs ++ ys)[i]? with
    | some zs => (c f zs S2).noex
    | none => .no := by first | (simp only [semE]; done) | (simp only [semE]; rfl)
@[simp] theorem q_semE_bi (m : Bool) (b : Bi) (es : EL) (ρ : Env) (S : Store) : semE c (.bi m b es) ρ S = (semL c es ρ S).bind fun xs S1 => biD m b xs S1 := by first | (simp only [semE]; done) | (simp only [semE]; rfl)
@[simp] theorem q_semE_lrng1 (m : Bool) (a : E) (ρ : Env) (S : Store) : semE c (.lrng1 m a) ρ S = (semE c a ρ S).bind fun x S1 => match x with
    | .int j => if okR j then mkL m (rngD 0 j) S1 else .no
    | _ => .no := by first | (simp only [semE]; done) | (simp only [semE]; rfl)
@[simp] theorem q_semE_lrng2 (m : Bool) (a : E) (b : E) (ρ : Env) (S : Store) : semE c (.lrng2 m a b) ρ S = (semE c a ρ S).bind fun x S1 => (semE c b ρ S1).bind fun y S2 => match x, y with
    | .int i, .int j => if okR i && okR j then mkL m (rngD i j) S2 else .no
    | _, _ => .no := by first | (simp only [semE]; done) | (simp only [semE]; rfl)
@[simp] theorem q_semE_isi (a : E) (ts : List Ty) (w2) (ρ : Env) (S : Store) : semE c (.isi a ts w2) ρ S = (semE c a ρ S).bind fun x S1 => .opt ((isiD S1 ts x).map .bl) S1 := by first | (simp only [semE]; done) | (simp only [semE]; rfl)
@[simp] theorem q_semE_me (m : Bool) (k : Me) (a : E) (es : EL) (ρ : Env) (S : Store) : semE c (.me m k a es) ρ S = (semE c a ρ S).bind fun x S1 => if recv k S1 x then (semL c es ρ S1).bind fun xs S2 => meD m k x xs S2 else .no := by first | (simp only [semE]; done) | (simp only [semE]; rfl)
@[simp] theorem q_semE_lc (m : Bool) (own : List (Str × Nat)) (elt : E) (g : G) (it : I) (cs : EL) (ρ : Env) (S : Store) : semE c (.lc m own elt g it cs) ρ S = (semI c it ρ S).bind fun src S1 => (lcRun src (lcBody g (own.map (·.2)) (semC c cs) (semE c elt) ρ) src.items 0 S1).bind fun xs S3 => mkL m xs S3 := by first | (simp only [semE]; done) | (simp only [semE]; rfl)
@[simp] theorem q_semE_sst (m : Bool) (a : E) (ρ : Env) (S : Store) : semE c (.sst m a) ρ S = (semE c a ρ S).bind fun x S1 => match (lstD S1 x).bind intsD with
    | some is => if is.length ≤ 4000 ∧ (ddI is).length < 64 then mkL m ((sortI (ddI is)).map .int) S1 else .no
    | none => .no := by first | (simp only [semE]; done) | (simp only [semE]; rfl)
@[simp] theorem q_semE_lset (a : E) (ρ : Env) (S : Store) : semE c (.lset a) ρ S = (semE c a ρ S).bind fun x S1 => match (lstD S1 x).bind intsD with
    | some is => if is.length ≤ 4000 then .ok (.int (ddI is).length) S1 else .no
    | none => .no := by first | (simp only [semE]; done) | (simp only [semE]; rfl)
@[simp] theorem q_semE_lc2 (m : Bool) (own : List (Str × Nat)) (elt : E) (g : G) (it : I) (cs : EL) (g1 : G) (it1 : I) (cs1 : EL) (ρ : Env) (S : Store) : semE c (.lc2 m own elt g it cs g1 it1 cs1) ρ S = (semI c it ρ S).bind fun src S1 => (lcRunL src (lcBody2 g (own.map (·.2)) (semC c cs) (semI c it1) g1 (semC c cs1) (semE c elt) ρ) src.items 0 S1).bind fun xs S3 => mkL m xs S3 := by first | (simp only [semE]; done) | (simp only [semE]; rfl)
@[simp] theorem q_semE_dc (m : Bool) (own : List (Str × Nat)) (ke ve : E) (g : G) (it : I) (cs : EL) (ρ : Env) (S : Store) : semE c (.dc m own ke ve g it cs) ρ S = (semI c it ρ S).bind fun src S1 => (dcRun src (dcBody g (own.map (·.2)) (semC c cs) (semE c ke) (semE c ve) ρ) [] src.items 0 S1).bind fun kvs S3 => mkD m false kvs S3 := by first | (simp only [semE]; done) | (simp only [semE]; rfl)
@[simp] theorem q_semE_dd (m : Bool) (es : EL) (ρ : Env) (S : Store) : semE c (.dd m es) ρ S = (semL c es ρ S).bind fun xs S1 => match keysP xs with
    | some kvs => if kvs.length ≤ 15 then mkD m false (mergeA [] kvs) S1 else .no
    | none => .no := by first | (simp only [semE]; done) | (simp only [semE]; rfl)
@[simp] theorem q_semE_ddt (m : Bool) (es : EL) (ρ : Env) (S : Store) : semE c (.ddt m es) ρ S = (semL c es ρ S).bind fun xs S1 => match keysT xs with
    | some kvs => if kvs.length ≤ 15 then mkD m true (mergeA [] kvs) S1 else .no
    | none => .no := by first | (simp only [semE]; done) | (simp only [semE]; rfl)
@[simp] theorem q_semL_nil  (ρ : Env) (S : Store) : semL c (.nil) ρ S = .ok [] S := by first | (simp only [semL]; done) | (simp only [semL]; rfl)
@[simp] theorem q_semL_cons (e : E) (r : EL) (ρ : Env) (S : Store) : semL c (.cons e r) ρ S = (semE c e ρ S).bind fun x S1 => (semL c r ρ S1).bind fun xs S2 => .ok (x :: xs) S2 := by first | (simp only [semL]; done) | (simp only [semL]; rfl)
@[simp] theorem q_semC_nil  (ρ : Env) (S : Store) : semC c (.nil) ρ S = .ok true S := by first | (simp only [semC]; done) | (simp only [semC]; rfl)
@[simp] theorem q_semC_cons (e : E) (r : EL) (ρ : Env) (S : Store) : semC c (.cons e r) ρ S = (semE c e ρ S).bind fun x S1 => match LH.truthy S1 x with
    | some true => semC c r ρ S1
    | some false => .ok false S1
    | none => .no := by first | (simp only [semC]; done) | (simp only [semC]; rfl)
@[simp] theorem q_semI_it (e : E) (ρ : Env) (S : Store) : semI c (.it e) ρ S = (semE c e ρ S).bind fun x S1 => walkD S1 x := by first | (simp only [semI]; done) | (simp only [semI]; rfl)
@[simp] theorem q_semI_items (e : E) (ρ : Env) (S : Store) : semI c (.items e) ρ S = (semE c e ρ S).bind fun x S1 => walkI S1 x := by first | (simp only [semI]; done) | (simp only [semI]; rfl)
@[simp] theorem q_semI_values (e : E) (ρ : Env) (S : Store) : semI c (.values e) ρ S = (semE c e ρ S).bind fun x S1 => walkV S1 x := by first | (simp only [semI]; done) | (simp only [semI]; rfl)
@[simp] theorem q_semI_rng1 (a : E) (ρ : Env) (S : Store) : semI c (.rng1 a) ρ S = (semE c a ρ S).bind fun x S1 => match x with
    | .int j => if okR j then .ok (.fix (rngD 0 j)) S1 else .no
    | _ => .no := by first | (simp only [semI]; done) | (simp only [semI]; rfl)
@[simp] theorem q_semI_rng2 (a : E) (b : E) (ρ : Env) (S : Store) : semI c (.rng2 a b) ρ S = (semE c a ρ S).bind fun x S1 => (semE c b ρ S1).bind fun y S2 => match x, y with
    | .int i, .int j => if okR i && okR j then .ok (.fix (rngD i j)) S2 else .no
    | _, _ => .no := by first | (simp only [semI]; done) | (simp only [semI]; rfl)
@[simp] theorem q_semI_enum (a : E) (ρ : Env) (S : Store) : semI c (.enum a) ρ S = (semE c a ρ S).bind fun x S1 => match x with
    | .lst xs => .ok (.fix ((List.range xs.length).zip xs |>.map fun p => .tup [.int (p.1 : Nat), p.2])) S1
    | _ => .no := by first | (simp only [semI]; done) | (simp only [semI]; rfl)
@[simp] theorem q_semI_zip (a : E) (b : E) (ρ : Env) (S : Store) : semI c (.zip a b) ρ S = (semE c a ρ S).bind fun x S1 => (semE c b ρ S1).bind fun y S2 => match x, y with
    | .lst xs, .lst ys => .ok (.fix ((xs.zip ys).map fun p => .tup [p.1, p.2])) S2
    | .tup xs, .tup ys => .ok (.fix ((xs.zip ys).map fun p => .tup [p.1, p.2])) S2
    | x, y => match lstD S2 x, lstD S2 y with
      | some xs, some ys => .ok (.zipl x y ((xs.zip ys).map fun p => .tup [p.1, p.2])) S2
      | _, _ => .no := by first | (simp only [semI]; done) | (simp only [semI]; rfl)
@[simp] theorem q_semI_revr (a : E) (ρ : Env) (S : Store) : semI c (.revr a) ρ S = (semE c a ρ S).bind fun x S1 => match x with
    | .int j => if okR j then .ok (.fix (rngD 0 j).reverse) S1 else .no
    | _ => .no := by first | (simp only [semI]; done) | (simp only [semI]; rfl)
@[simp] theorem q_semE_bad (ρ : Env) (S : Store) : semE c .bad ρ S = .no := by simp only [semE]
@[simp] theorem q_semS_bad (ρ : Env) (S : Store) : semS c fuel .bad ρ S = .no := by simp only [semS]
@[simp] theorem q_semE_fnv (x : Str) (ρ : Env) (S : Store) : semE c (.fnv x) ρ S = .ok (.fn x) S := by simp only [semE]
@[simp] theorem q_semE_cv (tab : List (Str × Nat)) (e : E) (es : EL) (ρ : Env) (S : Store) : semE c (.cv tab e es) ρ S = (semE c e ρ S).bind fun x S1 => match fnD tab x with
  | some f => (semL c es ρ S1).bind fun xs S2 => (c f xs S2).noex
  | none => .no := by first | (simp only [semE]; done) | (simp only [semE]; rfl)
@[simp] theorem q_semE_val (e : E) (ρ : Env) (S : Store) : semE c (.val e) ρ S = (semE c e ρ S).bind fun x S1 => match x with
  | .exc _ v => .ok v S1
  | _ => .no := by first | (simp only [semE]; done) | (simp only [semE]; rfl)
@[simp] theorem q_semE_isx (e : E) (k : Option Nat) (ρ : Env) (S : Store) : semE c (.isx e k) ρ S = (semE c e ρ S).bind fun x S1 => .opt ((isxD k x).map .bl) S1 := by first | (simp only [semE]; done) | (simp only [semE]; rfl)
@[simp] theorem q_semX_call (f : Nat) (es : EL) (ρ : Env) (S : Store) : semX c (.call f es) ρ S = (semL c es ρ S).noex.bind fun xs S1 => c f xs S1 := id rfl
@[simp] theorem q_semX_callk (f : Nat) (es : EL) (ks : EL) (p : List Nat) (ρ : Env) (S : Store) : semX c (.callk f es ks p) ρ S = (semL c es ρ S).noex.bind fun xs S1 => (semL c ks ρ S1).noex.bind fun ys S2 => match p.mapM fun i => (xs ++ ys)[i]? with
  | some zs => c f zs S2
  | none => .no := id rfl
@[simp] theorem q_semX_cv (tab : List (Str × Nat)) (e : E) (es : EL) (ρ : Env) (S : Store) : semX c (.cv tab e es) ρ S = (semE c e ρ S).noex.bind fun x S1 => match fnD tab x with
  | some f => (semL c es ρ S1).noex.bind fun xs S2 => c f xs S2
  | none => .no := id rfl
@[simp] theorem q_semS_asg (g : G) (e : E) (ρ : Env) (S : Store) : semS c fuel (.asg g e) ρ S = if e.isX = true then (semX c e ρ S).toX ρ fun d S1 => match asgG g d ρ with
      | some ρ' => .nx ρ' S1
      | none => .no
    else (semE c e ρ S).toS ρ fun d S1 => match asgG g d ρ with
      | some ρ' => .nx ρ' S1
      | none => .no := by first | (simp only [semS]; done) | (simp only [semS]; rfl)
@[simp] theorem q_semS_par (is : List Nat) (es : EL) (ρ : Env) (S : Store) : semS c fuel (.par is es) ρ S = (semL c es ρ S).toS ρ fun ds S1 => match asgN is ds ρ with
    | some ρ' => .nx ρ' S1
    | none => .no := by first | (simp only [semS]; done) | (simp only [semS]; rfl)
@[simp] theorem q_semS_put (o : E) (i : E) (e : E) (ρ : Env) (S : Store) : semS c fuel (.put o i e) ρ S = (semE c e ρ S).toS ρ fun v S1 => (semE c o ρ S1).toS ρ fun x S2 => (semE c i ρ S2).toS ρ fun y S3 => match putD x y v S3 with
    | some S4 => .nx ρ S4
    | none => .no := by first | (simp only [semS]; done) | (simp only [semS]; rfl)
@[simp] theorem q_semS_aug (i : Nat) (op : BOp) (e : E) (ρ : Env) (S : Store) : semS c fuel (.aug i op e) ρ S = match ρ.getD i none with
    | some (.int a) => (semE c e ρ S).toS ρ fun d S1 => match augI op a d with
      | some z => .nx (ρ.set i (some (.int z))) S1
      | none => .no
    | _ => .no := by first | (simp only [semS]; done) | (simp only [semS]; rfl)
@[simp] theorem q_semS_ifs (t : E) (a : B) (b : B) (ρ : Env) (S : Store) : semS c fuel (.ifs t a b) ρ S = (semT c t ρ S).toS ρ fun k S1 => if k then semB c fuel a ρ S1 else semB c fuel b ρ S1 := by first | (simp only [semS]; done) | (simp only [semS]; rfl)
@[simp] theorem q_semS_for_ (g : G) (it : I) (b : B) (ρ : Env) (S : Store) : semS c fuel (.for_ g it b) ρ S = (semI c it ρ S).toS ρ fun src S1 => forRun src g (semB c fuel b) src.items 0 ρ S1 := by first | (simp only [semS]; done) | (simp only [semS]; rfl)
@[simp] theorem q_semS_while_ (t : E) (b : B) (ρ : Env) (S : Store) : semS c fuel (.while_ t b) ρ S = whileRun (semT c t) (semB c fuel b) fuel ρ S := by first | (simp only [semS]; done) | (simp only [semS]; rfl)
@[simp] theorem q_semS_ret (e : E) (ρ : Env) (S : Store) : semS c fuel (.ret e) ρ S = if e.isX = true then (semX c e ρ S).toX ρ fun d S1 => .rt d S1 else (semE c e ρ S).toS ρ fun d S1 => .rt d S1 := by first | (simp only [semS]; done) | (simp only [semS]; rfl)
@[simp] theorem q_semS_retN  (ρ : Env) (S : Store) : semS c fuel (.retN) ρ S = .rt .non S := by first | (simp only [semS]; done) | (simp only [semS]; rfl)
@[simp] theorem q_semS_exp (e : E) (ρ : Env) (S : Store) : semS c fuel (.exp e) ρ S = if e.isX = true then (semX c e ρ S).toX ρ fun _ S1 => .nx ρ S1 else (semE c e ρ S).toS ρ fun _ S1 => .nx ρ S1 := by first | (simp only [semS]; done) | (simp only [semS]; rfl)
@[simp] theorem q_semS_raise (k : Nat) (es : EL) (ρ : Env) (S : Store) : semS c fuel (.raise k es) ρ S = (semL c es ρ S).toS ρ fun ds S1 => match ds with
    | [d] => .ex k d ρ S1
    | _ => .no := by first | (simp only [semS]; done) | (simp only [semS]; rfl)
@[simp] theorem q_semS_reti (t a b : E) (ρ : Env) (S : Store) : semS c fuel (.reti t a b) ρ S = (semT c t ρ S).toS ρ fun k S1 => if k then (if a.isX = true then (semX c a ρ S1).toX ρ fun d S1 => .rt d S1 else .no) else if b.isX = true then (semX c b ρ S1).toX ρ fun d S1 => .rt d S1 else .no := by first | (simp only [semS]; done) | (simp only [semS]; rfl)
@[simp] theorem q_semS_try (b : B) (k i j : Nat) (val : Bool) (ρ : Env) (S : Store) : semS c fuel (.try_ b k i j val) ρ S = match semB c fuel b ρ S with
    | .ex q v ρ1 S1 => if (k = 0 ∨ k = q) ∧ i < ρ1.length then .nx ((ρ1.set j (some (if val then v else .exc q v))).set i none) S1 else .no
    | r => r := by first | (simp only [semS]; done) | (simp only [semS]; rfl)
@[simp] theorem q_semS_pass  (ρ : Env) (S : Store) : semS c fuel (.pass) ρ S = .nx ρ S := by first | (simp only [semS]; done) | (simp only [semS]; rfl)
@[simp] theorem q_semS_brk  (ρ : Env) (S : Store) : semS c fuel (.brk) ρ S = .bk ρ S := by first | (simp only [semS]; done) | (simp only [semS]; rfl)
@[simp] theorem q_semS_cnt  (ρ : Env) (S : Store) : semS c fuel (.cnt) ρ S = .ct ρ S := by first | (simp only [semS]; done) | (simp only [semS]; rfl)
@[simp] theorem q_semB_nil  (ρ : Env) (S : Store) : semB c fuel (.nil) ρ S = .nx ρ S := by first | (simp only [semB]; done) | (simp only [semB]; rfl)
@[simp] theorem q_semB_cons (s : Sm) (r : B) (ρ : Env) (S : Store) : semB c fuel (.cons s r) ρ S = match semS c fuel s ρ S with
    | .nx ρ' S' => semB c fuel r ρ' S'
    | x => x := by first | (simp only [semB]; done) | (simp only [semB]; rfl)
@[simp] theorem q_semT (e : E) (ρ : Env) (S : Store) : semT c e ρ S = (semE c e ρ S).bind fun x S1 => .opt (LH.truthy S1 x) S1 := by simp only [semT]
end
section
variable (S : Store) (i j : Int) (x y : Str) (a b : Bool) (m : Bool) (d : D) (xs ys : List D) (ns : List Int) (ts : List Ty) (n : Nat)
@[simp] theorem e_lt : cmpD S .lt (.int i) (.int j) = some (decide (i < j)) := id rfl
@[simp] theorem e_le : cmpD S .le (.int i) (.int j) = some (decide (i ≤ j)) := id rfl
@[simp] theorem e_gt : cmpD S .gt (.int i) (.int j) = some (decide (j < i)) := id rfl
@[simp] theorem e_ge : cmpD S .ge (.int i) (.int j) = some (decide (j ≤ i)) := id rfl
@[simp] theorem e_ltS : cmpD S .lt (.str x) (.str y) = some (decide (x.cps.toList < y.cps.toList)) := id rfl
@[simp] theorem e_gtS : cmpD S .gt (.str x) (.str y) = some (decide (y.cps.toList < x.cps.toList)) := id rfl
@[simp] theorem e_geS : cmpD S .ge (.str x) (.str y) = some (!decide (x.cps.toList < y.cps.toList)) := id rfl
@[simp] theorem o_mulS : binD m .mul (.str x) (.int j) S = if 0 ≤ j ∧ j ≤ LMAX ∧ x.length * j.toNat ≤ LMAX then .ok (.str (strRep x j.toNat)) S else .no := id rfl
@[simp] theorem b_listS : biD m .list [.str x] S = if x.length ≤ LMAX then mkL m (x.cps.toList.map fun c => .str ⟨#[c]⟩) S else .no := id rfl
@[simp] theorem e_isNB : cmpD S .is_ .non (.bl a) = some false := id rfl
@[simp] theorem e_isnNB : cmpD S .isnot .non (.bl a) = some true := id rfl
@[simp] theorem e_isIB : cmpD S .is_ (.int i) (.bl a) = some false := id rfl
@[simp] theorem e_isnIB : cmpD S .isnot (.int i) (.bl a) = some true := id rfl
@[simp] theorem e_isSB : cmpD S .is_ (.str x) (.bl a) = some false := id rfl
@[simp] theorem e_isnSB : cmpD S .isnot (.str x) (.bl a) = some true := id rfl
@[simp] theorem e_isLB : cmpD S .is_ (.lst xs) (.bl a) = some false := id rfl
@[simp] theorem e_isnLB : cmpD S .isnot (.lst xs) (.bl a) = some true := id rfl
@[simp] theorem e_isTB : cmpD S .is_ (.tup xs) (.bl a) = some false := id rfl
@[simp] theorem e_isnTB : cmpD S .isnot (.tup xs) (.bl a) = some true := id rfl
@[simp] theorem e_isRB : cmpD S .is_ (.ref n) (.bl a) = some false := id rfl
@[simp] theorem e_isnRB : cmpD S .isnot (.ref n) (.bl a) = some true := id rfl
@[simp] theorem e_isBB : cmpD S .is_ (.bl a) (.bl b) = some (decide (a = b)) := id rfl
@[simp] theorem e_isnBB : cmpD S .isnot (.bl a) (.bl b) = some (!decide (a = b)) := id rfl
@[simp] theorem e_isRN : cmpD S .is_ (.ref n) .non = some false := id rfl
@[simp] theorem e_isnRN : cmpD S .isnot (.ref n) .non = some true := id rfl
@[simp] theorem e_eqI : cmpD S .eq (.int i) (.int j) = some (decide (i = j)) := by
  show some (i == j) = _
  by_cases h : i = j <;> simp [h]
@[simp] theorem e_neI : cmpD S .ne (.int i) (.int j) = some (!decide (i = j)) := by
  show some (!(i == j)) = _
  by_cases h : i = j <;> simp [h]
@[simp] theorem e_eqS : cmpD S .eq (.str x) (.str y) = some (decide (x = y)) := id rfl
@[simp] theorem e_neS : cmpD S .ne (.str x) (.str y) = some (!decide (x = y)) := id rfl
@[simp] theorem e_eqB : cmpD S .eq (.bl a) (.bl b) = some (a == b) := id rfl
@[simp] theorem e_neB : cmpD S .ne (.bl a) (.bl b) = some (!(a == b)) := id rfl
@[simp] theorem e_isN : cmpD S .is_ .non .non = some true := id rfl
@[simp] theorem e_isB : cmpD S .is_ (.bl a) .non = some false := id rfl
@[simp] theorem e_isI : cmpD S .is_ (.int i) .non = some false := id rfl
@[simp] theorem e_isS : cmpD S .is_ (.str x) .non = some false := id rfl
@[simp] theorem e_isL : cmpD S .is_ (.lst xs) .non = some false := id rfl
@[simp] theorem e_isT : cmpD S .is_ (.tup xs) .non = some false := id rfl
@[simp] theorem e_isnN : cmpD S .isnot .non .non = some false := id rfl
@[simp] theorem e_isnB : cmpD S .isnot (.bl a) .non = some true := id rfl
@[simp] theorem e_isnI : cmpD S .isnot (.int i) .non = some true := id rfl
@[simp] theorem e_isnS : cmpD S .isnot (.str x) .non = some true := id rfl
@[simp] theorem e_isnL : cmpD S .isnot (.lst xs) .non = some true := id rfl
@[simp] theorem e_isnT : cmpD S .isnot (.tup xs) .non = some true := id rfl
@[simp] theorem t_non : LH.truthy S .non = some false := id rfl
@[simp] theorem t_bl : LH.truthy S (.bl a) = some a := id rfl
@[simp] theorem t_int : LH.truthy S (.int i) = some (i != 0) := id rfl
@[simp] theorem t_lst : LH.truthy S (.lst xs) = some (!xs.isEmpty) := id rfl
@[simp] theorem t_tup : LH.truthy S (.tup xs) = some (!xs.isEmpty) := id rfl
@[simp] theorem n_lst : lenD S (.lst xs) = some (xs.length : Int) := id rfl
@[simp] theorem n_tup : lenD S (.tup xs) = some (xs.length : Int) := id rfl
@[simp] theorem n_scr : lenD S (.scr ns) = some (ns.length : Int) := id rfl
@[simp] theorem x_lst : ixD (.lst xs) (.int i) S = atD xs i := id rfl
@[simp] theorem x_tup : ixD (.tup xs) (.int i) S = atD xs i := id rfl
@[simp] theorem x_scr : ixD (.scr ns) (.int i) S = atD (ns.map .int) i := id rfl
@[simp] theorem o_addI : binD m .add (.int i) (.int j) S = .ok (.int (i + j)) S := id rfl
@[simp] theorem o_subI : binD m .sub (.int i) (.int j) S = .ok (.int (i - j)) S := id rfl
@[simp] theorem o_mulI : binD m .mul (.int i) (.int j) S = if smallI i && smallI j then .ok (.int (i * j)) S else .no := id rfl
@[simp] theorem o_fdivI : binD m .fdiv (.int i) (.int j) S = if smallI j && decide (j ≠ 0) then .ok (.int (i.fdiv j)) S else .no := id rfl
@[simp] theorem o_modI : binD m .mod (.int i) (.int j) S = if j ≠ 0 then .ok (.int (i.fmod j)) S else .no := id rfl
@[simp] theorem o_powI : binD m .pow (.int i) (.int j) S = if 0 ≤ j ∧ j ≤ 1000 ∧ i.natAbs < 2 ^ 200 then .ok (.int (i ^ j.toNat)) S else .no := id rfl
@[simp] theorem o_addL : binD m .add (.lst xs) (.lst ys) S = mkL m (xs ++ ys) S := id rfl
@[simp] theorem o_addT : binD m .add (.tup xs) (.tup ys) S = if xs.length + ys.length ≤ LMAX then .ok (.tup (xs ++ ys)) S else .no := id rfl
@[simp] theorem l_lst : lstD S (.lst xs) = some xs := id rfl
@[simp] theorem b_len : biD m .len [d] S = .opt ((lenD S d).map .int) S := id rfl
@[simp] theorem b_int : biD m .int [.int i] S = .ok (.int i) S := id rfl
@[simp] theorem b_max2 : biD m .max [.int i, .int j] S = .ok (.int (if j > i then j else i)) S := id rfl
@[simp] theorem b_min2 : biD m .min [.int i, .int j] S = .ok (.int (if j < i then j else i)) S := id rfl
@[simp] theorem b_list : biD m .list [.lst xs] S = mkL m xs S := id rfl
@[simp] theorem b_listT : biD m .list [.tup xs] S = mkL m xs S := id rfl
@[simp] theorem b_bits : meD m .bitlen (.int i) [] S = .ok (.int (Builtin.Int.intBits i : Nat)) S := id rfl
@[simp] theorem r_bits : recv .bitlen S d = true := id rfl
@[simp] theorem i_non : isiD S ts .non = some false := id rfl
@[simp] theorem i_bl : isiD S ts (.bl a) = some (ts.any (Ty.bool.le ·)) := id rfl
@[simp] theorem i_int : isiD S ts (.int i) = some (ts.any (Ty.int.le ·)) := id rfl
@[simp] theorem i_str : isiD S ts (.str x) = some (ts.any (Ty.str.le ·)) := id rfl
@[simp] theorem i_lst : isiD S ts (.lst xs) = some (ts.any (Ty.list.le ·)) := id rfl
@[simp] theorem i_tup : isiD S ts (.tup xs) = some (ts.any (Ty.tuple.le ·)) := id rfl
@[simp] theorem i_dct (ks : List KY) : isiD S ts (.dct false ks xs) = some (ts.any (Ty.dict.le ·)) := id rfl
@[simp] theorem c_mt : mkT xs S = if xs.length ≤ LMAX then .ok (.tup xs) S else .no := id rfl
@[simp] theorem k_int : constD (.int i) = .int i := id rfl
@[simp] theorem k_bool : constD (.bool a) = .bl a := id rfl
@[simp] theorem k_str : constD (.str x) = .str x := id rfl
@[simp] theorem k_none : constD .none = .non := id rfl
@[simp] theorem it_fix : (Src.fix xs).items = xs := id rfl
@[simp] theorem wD_lst : walkD S (.lst xs) = .ok (.fix xs) S := id rfl
@[simp] theorem wD_tup : walkD S (.tup xs) = .ok (.fix xs) S := id rfl
@[simp] theorem wD_str (x : Str) : walkD S (.str x) = .ok (.fix (x.cps.toList.map fun c => .str ⟨#[c]⟩)) S := id rfl
theorem wD_ref {n : Nat} (h : S[n]? = some (.lst xs)) : walkD S (.ref n) = .ok (.live n xs) S := by
  simp [walkD, lockS, srcD, h]
@[simp] theorem src_lst : srcD S (.lst xs) = some (.fix xs) := id rfl
@[simp] theorem src_tup : srcD S (.tup xs) = some (.fix xs) := id rfl
@[simp] theorem toX_ok {α : Type} (v : α) (ρ : Env) (k : α → Store → RS) : (R.ok v S).toX ρ k = k v S := id rfl
@[simp] theorem toX_ex {α : Type} (q : Nat) (v : D) (ρ : Env) (k : α → Store → RS) : (R.ex q v S : R α).toX ρ k = .ex q v ρ S := id rfl
@[simp] theorem toS_ok {α : Type} (v : α) (ρ : Env) (k : α → Store → RS) : (R.ok v S).toS ρ k = k v S := id rfl
@[simp] theorem toS_no {α : Type} (ρ : Env) (k : α → Store → RS) : (R.no : R α).toS ρ k = .no := id rfl
theorem mkL_f (h : xs.length ≤ LMAX) : mkL false xs S = .ok (.lst xs) S := by unfold mkL; rw [if_pos h]; rfl
theorem mkL_t (h : xs.length ≤ LMAX) : mkL true xs S = .ok (.ref S.length) (S ++ [.lst xs]) := by unfold mkL; rw [if_pos h]; rfl
theorem at_n {k : Nat} (h : k < xs.length) : atD xs (k : Int) = some xs[k] := by
  unfold atD ixI
  rw [if_pos (by omega), if_pos (by omega)]
  simp [h]
@[simp] theorem at_0 : atD (d :: xs) 0 = some d := by
  have := at_n (d :: xs) (k := 0) (by simp)
  simpa using this
@[simp] theorem at_1 (e : D) : atD (d :: e :: xs) 1 = some e := by
  have := at_n (d :: e :: xs) (k := 1) (by simp)
  simpa using this
@[simp] theorem at_2 (e f : D) : atD (d :: e :: f :: xs) 2 = some f := by
  have := at_n (d :: e :: f :: xs) (k := 2) (by simp)
  simpa using this
@[simp] theorem at_3 (e f h : D) : atD (d :: e :: f :: h :: xs) 3 = some h := by
  have := at_n (d :: e :: f :: h :: xs) (k := 3) (by simp)
  simpa using this
end
section
variable {S : Store} {n : Nat} {xs : List D}
theorem lst_ref (h : S[n]? = some (.lst xs)) : lstD S (.ref n) = some xs := by simp [lstD, h]
theorem len_ref (h : S[n]? = some (.lst xs)) : lenD S (.ref n) = some (xs.length : Int) := by simp [lenD, h]
theorem tru_ref (h : S[n]? = some (.lst xs)) : LH.truthy S (.ref n) = some (!xs.isEmpty) := by simp [LH.truthy, h]
theorem ix_ref (h : S[n]? = some (.lst xs)) (i : Int) : ixD (.ref n) (.int i) S = atD xs i := by simp [ixD, lst_ref h]
theorem isi_ref (h : S[n]? = some (.lst xs)) (ts : List Ty) : isiD S ts (.ref n) = some (ts.any (Ty.list.le ·)) := by simp [isiD, tyD, h]
theorem put_ref (h : S[n]? = some (.lst xs)) (k : Int) (v : D) : putD (.ref n) (.int k) v S = (ixI xs.length k).map fun j => S.set n (.lst (xs.set j v)) := by simp [putD, h]
theorem app_ref (h : S[n]? = some (.lst xs)) (hl : xs.length < LMAX) (m : Bool) (v : D) : meD m .append (.ref n) [v] S = .ok .non (S.set n (.lst (xs ++ [v]))) := by simp [meD, meAppend, h, hl]
theorem rcv_app (h : S[n]? = some (.lst xs)) : recv .append S (.ref n) = true := by simp [recv, lst_ref h]
theorem rcv_pop (h : S[n]? = some (.lst xs)) : recv .pop S (.ref n) = true := by simp [recv, lst_ref h]
end
theorem LMAX_ge : 1000000 ≤ LMAX := by unfold LMAX; decide
@[simp] theorem le_LMAX1 (n : Nat) : (n ≤ LMAX) = (n ≤ 16000000) := id rfl
@[simp] theorem lt_LMAX1 (n : Nat) : (n < LMAX) = (n < 16000000) := id rfl
end LH

namespace LH
open PySem hiding call truthy
open PySem.W L2 PySem.Spec PyProof.Rows
/-! ## the plain side: calls -/
theorem call_ret {P : List Def} {F n i : Nat} {as : List D} {S S' : Store} {d : Def} {v : D} (hd : P[i]? = some d) (hl : as.length = d.pars) (h : semB (LH.call P F n) F d.body (startE d as) S = .rt v S') (hs : d.keep = true ∨ S'.length = S.length) : LH.call P F (n + 1) i as S = .ok v S' := by
  simp only [LH.call, hd, if_pos hl, h, finD]
  rcases hs with hs | hs
  · rw [hs]; rfl
  · rw [hs]; simp
theorem call_rt {P : List Def} {F n i : Nat} {as : List D} {S S' : Store} {d : Def} {v : D} (hd : P[i]? = some d) (hl : as.length = d.pars) (h : semB (LH.call P F n) F d.body (startE d as) S = .rt v S') : LH.call P F (n + 1) i as S = finD d.keep S.length v S' := by
  simp only [LH.call, hd, if_pos hl, h]
theorem call_nx {P : List Def} {F n i : Nat} {as : List D} {S S' : Store} {d : Def} {ρ : Env} (hd : P[i]? = some d) (hl : as.length = d.pars) (h : semB (LH.call P F n) F d.body (startE d as) S = .nx ρ S') (hs : S'.length = S.length) : LH.call P F (n + 1) i as S = .ok .non S' := by
  simp only [LH.call, hd, if_pos hl, h, finD]
  rw [hs]; simp
/-- a comprehension whose turns leave the store alone -/
theorem lc_fix {body : D → Store → R (Option D)} {S : Store} {f : D → Option D} {ys : List D} : ∀ (xs : List D) (i : Nat), (∀ x ∈ xs, body x S = .ok (f x) S) → lcRun (.fix ys) body xs i S = .ok (xs.filterMap f) S
  | [], i, _ => rfl
  | x :: xs, i, h => by
    have h1 := h x List.mem_cons_self
    have h2 := lc_fix (ys := ys) xs (i + 1) fun y hy => h y (List.mem_cons_of_mem _ hy)
    simp only [lcRun, Src.cur, h1, R.noex_ok, R.bind_ok, h2, List.filterMap_cons]
    cases f x <;> rfl
/-- a loop with an invariant -/
theorem for_fix {body : Env → Store → RS} {g : G} {ys : List D} (Inv : Nat → Env → Store → Prop) : ∀ (xs : List D) (i : Nat) (ρ : Env) (S : Store), Inv i ρ S →
    (∀ k x ρ S, xs[k]? = some x → Inv (i + k) ρ S → ∃ ρ1 ρ2 S2, asgG g x ρ = some ρ1 ∧ (body ρ1 S = .nx ρ2 S2 ∨ body ρ1 S = .ct ρ2 S2) ∧ Inv (i + k + 1) ρ2 S2) →
    ∃ ρ' S', forRun (.fix ys) g body xs i ρ S = .nx ρ' S' ∧ Inv (i + xs.length) ρ' S'
  | [], i, ρ, S, h, _ => ⟨ρ, S, rfl, h⟩
  | x :: xs, i, ρ, S, h, st => by
    obtain ⟨ρ1, ρ2, S2, e1, e2, h2⟩ := st 0 x ρ S rfl h
    obtain ⟨ρ', S', e3, h3⟩ := for_fix Inv xs (i + 1) ρ2 S2 h2 fun k y ρ S hy hi => by
      have := st (k + 1) y ρ S (by simpa using hy) (by rw [show i + (k + 1) = i + 1 + k by omega]; exact hi)
      rw [show i + (k + 1) + 1 = i + 1 + k + 1 by omega] at this
      exact this
    refine ⟨ρ', S', ?_, by rw [List.length_cons, show i + (xs.length + 1) = i + 1 + xs.length by omega]; exact h3⟩
    simp only [forRun, Src.cur, e1]
    rcases e2 with e2 | e2
    · rw [e2]; exact e3
    · rw [e2]; exact e3
theorem for_fix0 {body : Env → Store → RS} {g : G} {ys : List D} (Inv : Nat → Env → Store → Prop) (xs : List D) (ρ : Env) (S : Store) (h : Inv 0 ρ S)
    (st : ∀ k x ρ S, xs[k]? = some x → Inv k ρ S → ∃ ρ1 ρ2 S2, asgG g x ρ = some ρ1 ∧ (body ρ1 S = .nx ρ2 S2 ∨ body ρ1 S = .ct ρ2 S2) ∧ Inv (k + 1) ρ2 S2) :
    ∃ ρ' S', forRun (.fix ys) g body xs 0 ρ S = .nx ρ' S' ∧ Inv xs.length ρ' S' := by
  have := for_fix (ys := ys) Inv xs 0 ρ S h (by simpa only [Nat.zero_add] using st)
  simpa only [Nat.zero_add] using this
theorem small64 {i : Int} (h : i.natAbs < 2 ^ 64) : smallI i = true := by
  unfold smallI
  refine decide_eq_true (Nat.lt_trans h ?_)
  exact Nat.pow_lt_pow_right (by decide) (by decide)
theorem small_pow {i : Int} {k : Nat} (h : i.natAbs < 2 ^ k) (hk : k ≤ 9000) : smallI i = true := by
  unfold smallI
  exact decide_eq_true (Nat.lt_of_lt_of_le h (Nat.pow_le_pow_right (by decide) hk))
theorem fmod_range {a m : Int} (h : 0 < m) : 0 ≤ a.fmod m ∧ a.fmod m < m := ⟨Int.fmod_nonneg_of_pos a h, Int.fmod_lt_of_pos a h⟩
theorem natAbs_mul_lt {a b : Int} {j k : Nat} (ha : a.natAbs < 2 ^ j) (hb : b.natAbs < 2 ^ k) : (a * b).natAbs < 2 ^ (j + k) := by
  rw [Int.natAbs_mul, Nat.pow_add]
  exact Nat.mul_lt_mul'' ha hb
/-! ## the laws' own hash and draws -/
def gHash : Def := ⟨3, 2, false,
    (.cons (.asg (.nm 2) (.bin false .mod (.bi false .int (.cons (.bin false .add (.bin false .add (.bin false .add (.bin false .mul (.loc 0) (.cst (.int 1140671))) (.bin false .mul (.bin false .mul (.cst (.int 27644437)) (.loc 1)) (.loc 1))) (.bin false .mul (.cst (.int 131)) (.loc 1))) (.cst (.int 19))) .nil)) (.cst (.int 2147483629))))
    (.cons (.asg (.nm 2) (.bin false .mod (.bi false .int (.cons (.bin false .add (.bin false .add (.bin false .mul (.loc 2) (.loc 2)) (.bin false .mul (.cst (.int 62089)) (.loc 1))) (.cst (.int 32416187))) .nil)) (.cst (.int 2147483587))))
    (.cons (.ret (.bin false .mod (.bi false .int (.cons (.bin false .mul (.loc 2) (.cst (.int 48271))) .nil)) (.cst (.int 2147483647))))
    .nil)))⟩
def hashI (s i : Int) : Int :=
  let m := (s * 1140671 + 27644437 * i * i + 131 * i + 19).fmod 2147483629
  let m2 := (m * m + 62089 * i + 32416187).fmod 2147483587
  (m2 * 48271).fmod 2147483647
theorem hash_ok {P : List Def} {F n ih : Nat} {S : Store} {s i : Int} (hh : P[ih]? = some gHash) (h1 : s.natAbs < 2 ^ 64) (h2 : i.natAbs < 2 ^ 4000) : LH.call P F (n + 1) ih [.int s, .int i] S = .ok (.int (hashI s i)) S := by
  refine call_ret hh rfl ?_ (.inr rfl)
  have a1 := small64 h1
  have a2 := small_pow h2 (by decide)
  have a3 : smallI (27644437 * i) = true := small_pow (natAbs_mul_lt (j := 25) (by decide) h2) (by decide)
  have l1 : smallI 1140671 = true := small64 (by decide)
  have l2 : smallI 27644437 = true := small64 (by decide)
  have l3 : smallI 131 = true := small64 (by decide)
  have l4 : smallI 62089 = true := small64 (by decide)
  have l5 : smallI 48271 = true := small64 (by decide)
  have m1 : smallI ((s * 1140671 + 27644437 * i * i + 131 * i + 19).fmod 2147483629) = true := by
    have := fmod_range (a := s * 1140671 + 27644437 * i * i + 131 * i + 19) (m := 2147483629) (by decide)
    exact small64 (by omega)
  have m2 : ∀ x : Int, smallI (x.fmod 2147483587) = true := fun x => by
    have := fmod_range (a := x) (m := 2147483587) (by decide)
    exact small64 (by omega)
  simp [gHash, startE, asgG, a1, a2, a3, l1, l2, l3, l4, l5, m1, m2, hashI]
theorem hash_lt (s i : Int) : 0 ≤ hashI s i ∧ hashI s i < 2147483647 := fmod_range (by decide)

def gRandomB (h : Nat) : B := (.cons (.put (.loc 0) (.cst (.int 2)) (.bin false .add (.ix (.loc 0) (.cst (.int 2))) (.cst (.int 1))))
    (.cons (.asg (.nm 2) (.bin false .add (.bin false .mul (.loc 2) (.cst (.int 2147483587))) (.call h (.cons (.ix (.loc 0) (.cst (.int 1))) (.cons (.ix (.loc 0) (.cst (.int 2))) .nil)))))
    .nil))
def gRandom (h : Nat) : Def := ⟨4, 2, false,
    (.cons (.ifs (.cmp .gt (.ix (.loc 0) (.cst (.int 0))) (.cst (.int 0))) (.cons (.asg (.nm 2) (.bin false .mod (.bi false .int (.cons (.ix (.loc 0) (.cst (.int 0))) .nil)) (.loc 1)))
    (.cons (.put (.loc 0) (.cst (.int 0)) (.bin false .fdiv (.ix (.loc 0) (.cst (.int 0))) (.loc 1)))
    (.cons (.ret (.loc 2))
    .nil))) .nil)
    (.cons (.asg (.nm 2) (.cst (.int 0)))
    (.cons (.for_ (.nm 3) (.rng1 (.bin false .add (.cst (.int 1)) (.bin false .fdiv (.me false .bitlen (.loc 1) .nil) (.cst (.int 30))))) (gRandomB h))
    (.cons (.ret (.bin false .mod (.bi false .int (.cons (.loc 2) .nil)) (.loc 1)))
    .nil))))⟩
/-- a generator stands at g, after some draws -/
def GenAt (S : Store) (g m : Nat) : Prop := ∃ a b c : Int, S[g]? = some (.lst [.int a, .int b, .int c]) ∧ 0 ≤ b ∧ b < 2147483647 ∧ 0 ≤ c ∧ c ≤ (m : Int)
def SameBut (g : Nat) (S S' : Store) : Prop := S'.length = S.length ∧ ∀ i, i ≠ g → S'[i]? = S[i]?
theorem SameBut.refl (g : Nat) (S : Store) : SameBut g S S := ⟨rfl, fun _ _ => rfl⟩
theorem SameBut.trans {g : Nat} {S S1 S2 : Store} (a : SameBut g S S1) (b : SameBut g S1 S2) : SameBut g S S2 := ⟨b.1.trans a.1, fun i h => (b.2 i h).trans (a.2 i h)⟩
theorem SameBut.set (g : Nat) (S : Store) (o : Ob) : SameBut g S (S.set g o) := ⟨List.length_set, fun i h => List.getElem?_set_ne (Ne.symm h)⟩
theorem GenAt.mono {S : Store} {g m m' : Nat} (h : GenAt S g m) (e : m ≤ m') : GenAt S g m' := by
  obtain ⟨a, b, c, h1, h2, h3, h4, h5⟩ := h
  exact ⟨a, b, c, h1, h2, h3, h4, by omega⟩
theorem bits_le {b : Int} {k : Nat} (h : b.natAbs < 2 ^ k) : Builtin.Int.intBits b ≤ k := by
  unfold Builtin.Int.intBits
  split
  · exact Nat.zero_le _
  · rename_i h0
    have : b.natAbs ≠ 0 := by simpa using h0
    have := (Nat.log2_lt this).mpr h
    omega
theorem big_lit : (2 : Nat) ^ 3000 + 200 < 2 ^ 4000 := by
  have h1 : (2 : Nat) ^ 4000 = 2 ^ 3000 * 2 ^ 1000 := by rw [← Nat.pow_add]
  have h2 : (200 : Nat) < 2 ^ 8 := by decide
  have h3 : (2 : Nat) ^ 8 ≤ 2 ^ 3000 := Nat.pow_le_pow_right (by decide) (by decide)
  have h4 : (2 : Nat) ^ 1 ≤ 2 ^ 1000 := Nat.pow_le_pow_right (by decide) (by decide)
  rw [h1]
  generalize (2 : Nat) ^ 3000 = x at *
  generalize (2 : Nat) ^ 1000 = y at *
  have : x * 2 ≤ x * y := Nat.mul_le_mul_left x (by simpa using h4)
  omega
theorem random_ok {P : List Def} {F n ih ir : Nat} (hh : P[ih]? = some gHash) (hr : P[ir]? = some (gRandom ih)) {S : Store} {g m : Nat} (hg : GenAt S g m) (hm : m ≤ 2 ^ 3000) {b : Int} (h0 : 0 < b) (hb : b.natAbs < 2 ^ 1000) :
    ∃ r S', LH.call P F (n + 2) ir [.ref g, .int b] S = .ok (.int r) S' ∧ 0 ≤ r ∧ r < b ∧ GenAt S' g (m + 100) ∧ SameBut g S S' := by
  obtain ⟨x, y, z, hS, y0, y1, z0, z1⟩ := hg
  have hlt : g < S.length := (List.getElem?_eq_some_iff.mp hS).1
  have sb : smallI b = true := small_pow hb (by decide)
  have bn : b ≠ 0 := by omega
  by_cases hx : 0 < x
  · refine ⟨x.fmod b, S.set g (.lst [.int (x.fdiv b), .int y, .int z]), ?_, (fmod_range h0).1, (fmod_range h0).2, ⟨x.fdiv b, y, z, by rw [List.getElem?_set_self hlt], y0, y1, z0, by omega⟩, SameBut.set _ _ _⟩
    refine call_ret hr rfl ?_ (.inr List.length_set)
    simp [gRandom, startE, asgG, ix_ref hS, put_ref hS, ixI, hx, bn, sb]
  · obtain ⟨t, ht⟩ : ∃ t : Int, t = 1 + (Builtin.Int.intBits b : Int).fdiv 30 := ⟨_, rfl⟩
    have hbits := bits_le hb
    have ht0 : 0 ≤ t ∧ t ≤ 40 := by
      rw [ht, Int.fdiv_eq_ediv_of_nonneg _ (by decide)]
      omega
    have htr : okR t = true := by
      unfold okR
      exact decide_eq_true ⟨by omega, by omega⟩
    have s30 : smallI 30 = true := small64 (by decide)
    have sl : smallI 2147483587 = true := small64 (by decide)
    have hloop := for_fix0 (g := .nm 3) (ys := rngD 0 t) (body := semB (LH.call P F (n + 1)) F (gRandomB ih))
      (fun k ρ S' => ∃ d q, ρ = [some (.ref g), some (.int b), some (.int d), q] ∧ d.natAbs < 2 ^ (32 * k + 1) ∧ S' = S.set g (.lst [.int x, .int y, .int (z + k)])) (rngD 0 t) [some (.ref g), some (.int b), some (.int 0), none] S
      ⟨0, none, rfl, by decide, by
        rw [show z + ((0 : Nat) : Int) = z by omega]
        apply List.ext_getElem?
        intro i
        by_cases hi : g = i
        · subst hi; rw [List.getElem?_set_self hlt, hS]
        · rw [List.getElem?_set_ne hi]⟩ ?_
    · obtain ⟨ρ', S', e1, d, q, rfl, e3, rfl⟩ := hloop
      have hlen : (rngD 0 t).length ≤ 40 := by
        unfold rngD
        rw [List.length_map, List.length_range]
        omega
      refine ⟨d.fmod b, _, call_ret hr rfl (S' := S.set g (.lst [.int x, .int y, .int (z + ((rngD 0 t).length : Nat))])) ?_ (.inr List.length_set), (fmod_range h0).1, (fmod_range h0).2, ⟨x, y, _, by rw [List.getElem?_set_self hlt], y0, y1, by omega, by omega⟩, SameBut.set _ _ _⟩
      simp [gRandom, startE, asgG, ix_ref hS, hx, bn, sb, s30, ← ht, htr, e1]
    · intro k e ρ S' he hi
      obtain ⟨d, q, rfl, hd, rfl⟩ := hi
      have hk : k < 40 := by
        have := (List.getElem?_eq_some_iff.mp he).1
        unfold rngD at this
        rw [List.length_map, List.length_range] at this
        omega
      have hS2 : (S.set g (Ob.lst [.int x, .int y, .int (z + (k : Nat))]))[g]? = some (.lst [.int x, .int y, .int (z + (k : Nat))]) := by rw [List.getElem?_set_self hlt]
      have sd : smallI d = true := small_pow hd (by omega)
      have zs : (z + (k : Nat) + 1).natAbs < 2 ^ 4000 := by
        have := big_lit
        have h3 : z.natAbs ≤ 2 ^ 3000 := by omega
        omega
      have hc := hash_ok (P := P) (F := F) (n := n) (S := S.set g (.lst [.int x, .int y, .int (z + (k : Nat) + 1)])) hh (s := y) (i := z + (k : Nat) + 1) (by omega) zs
      have hs2 : ((S.set g (Ob.lst [.int x, .int y, .int (z + (k : Nat))])).set g (.lst [.int x, .int y, .int (z + (k : Nat) + 1)])) = S.set g (.lst [.int x, .int y, .int (z + (k : Nat) + 1)]) := List.set_set ..
      have hS3 : (S.set g (Ob.lst [.int x, .int y, .int (z + (k : Nat) + 1)]))[g]? = some (.lst [.int x, .int y, .int (z + (k : Nat) + 1)]) := by rw [List.getElem?_set_self hlt]
      refine ⟨[some (.ref g), some (.int b), some (.int d), some e], [some (.ref g), some (.int b), some (.int (d * 2147483587 + hashI y (z + (k : Nat) + 1))), some e], S.set g (.lst [.int x, .int y, .int (z + (k : Nat) + 1)]), rfl, .inl ?_, _, _, rfl, ?_, ?_⟩
      · simp [gRandomB, ix_ref hS2, put_ref hS2, ixI, hs2, ix_ref hS3, sd, sl, hc, asgG]
      · have hh2 := hash_lt y (z + (k : Nat) + 1)
        have h1 : (d * 2147483587).natAbs < 2 ^ (32 * k + 1 + 31) := natAbs_mul_lt hd (by decide)
        have h2 : (d * 2147483587 + hashI y (z + (k : Nat) + 1)).natAbs ≤ (d * 2147483587).natAbs + (hashI y (z + (k : Nat) + 1)).natAbs := Int.natAbs_add_le _ _
        have h3 : (hashI y (z + (k : Nat) + 1)).natAbs < 2 ^ 31 := by omega
        have h4 : (2 : Nat) ^ 31 ≤ 2 ^ (32 * k + 1 + 31) := Nat.pow_le_pow_right (by decide) (by omega)
        have h5 : (2 : Nat) ^ (32 * (k + 1) + 1) = 2 * 2 ^ (32 * k + 1 + 31) := by
          rw [show 32 * (k + 1) + 1 = (32 * k + 1 + 31) + 1 by omega, Nat.pow_succ, Nat.mul_comm]
        omega
      · rw [show z + ((k : Nat) : Int) + 1 = z + ((k + 1 : Nat) : Int) by omega]
end LH

namespace LH
open PySem hiding call truthy
open PySem.W L2 PySem.Spec PyProof.Rows
/-! ## plain values hold no refs -/
mutual
theorem plain_trav {g : Nat → Option D} : ∀ {k : Nat} {d : D}, d.plain k = true → D.trav g d = some d
  | k, .non, h => by simp [D.trav]
  | k, .bl _, h => by simp [D.trav]
  | k, .int _, h => by simp [D.trav]
  | k, .str _, h => by simp [D.trav]
  | 0, .lst xs, h => by simp [D.plain] at h
  | 0, .tup xs, h => by simp [D.plain] at h
  | k + 1, .lst xs, h => by
    simp only [D.plain] at h
    simp [D.trav, plain_travL (k := k) h]
  | k + 1, .tup xs, h => by
    simp only [D.plain] at h
    simp [D.trav, plain_travL (k := k) h]
  | k, .dct _ _ _, h => by cases k <;> simp [D.plain] at h
  | k, .ref _, h => by cases k <;> simp [D.plain] at h
  | k, .fn _, h => by cases k <;> simp [D.plain] at h
  | k, .exc _ _, h => by cases k <;> simp [D.plain] at h
  | k, .scr _, h => by cases k <;> simp [D.plain] at h
theorem plain_travL {g : Nat → Option D} : ∀ {k : Nat} {ds : List D}, D.plainL k ds = true → D.travL g ds = some ds
  | k, [], h => by simp [D.travL]
  | k, d :: ds, h => by
    simp only [D.plainL, Bool.and_eq_true] at h
    simp [D.travL, plain_trav (k := k) h.1, plain_travL (k := k) h.2]
end
mutual
theorem plain_cl {b : Nat} : ∀ {k : Nat} {d : D}, d.plain k = true → d.cl b = true
  | k, .non, h => by simp [D.cl]
  | k, .bl _, h => by simp [D.cl]
  | k, .int _, h => by simp [D.cl]
  | k, .str _, h => by simp [D.cl]
  | 0, .lst xs, h => by simp [D.plain] at h
  | 0, .tup xs, h => by simp [D.plain] at h
  | k + 1, .lst xs, h => by
    simp only [D.plain] at h
    simp [D.cl, plain_clL (k := k) h]
  | k + 1, .tup xs, h => by
    simp only [D.plain] at h
    simp [D.cl, plain_clL (k := k) h]
  | k, .dct _ _ _, h => by cases k <;> simp [D.plain] at h
  | k, .ref _, h => by cases k <;> simp [D.plain] at h
  | k, .fn _, h => by cases k <;> simp [D.plain] at h
  | k, .exc _ _, h => by cases k <;> simp [D.plain] at h
  | k, .scr _, h => by cases k <;> simp [D.plain] at h
theorem plain_clL {b : Nat} : ∀ {k : Nat} {ds : List D}, D.plainL k ds = true → D.clL b ds = true
  | k, [], h => by simp [D.clL]
  | k, d :: ds, h => by
    simp only [D.plainL, Bool.and_eq_true] at h
    simp [D.clL, plain_cl (k := k) h.1, plain_clL (k := k) h.2]
end
theorem plainL_iff {k : Nat} : ∀ {ds : List D}, D.plainL k ds = true ↔ ∀ d ∈ ds, d.plain k = true
  | [] => by simp [D.plainL]
  | d :: ds => by simp [D.plainL, plainL_iff (ds := ds)]
theorem rd_plain' {S : Store} {k : Nat} {d : D} (h : d.plain k = true) : rd S d = some d := by
  unfold rd flat
  exact plain_trav h
theorem rd_ref {S : Store} {k n : Nat} {xs : List D} (hS : S[n]? = some (.lst xs)) (h : D.plainL k xs = true) : rd S (.ref n) = some (.lst xs) := by
  unfold rd flat
  simp [D.trav, hS, plain_travL h]
theorem ne_nil {S : Store} {n : Nat} {xs : List D} (hS : S[n]? = some (.lst xs)) (h : D.plainL 19 xs = true) : cmpD S .ne (.ref n) (.lst []) = some (!xs.isEmpty) := by
  have h1 := rd_ref hS h
  have h2 : rd S (.lst []) = some (.lst []) := rd_plain' (k := 1) (by simp [D.plain, D.plainL])
  show (cmpEq S (.ref n) (.lst [])).map (!·) = _
  unfold cmpEq
  simp only [h1, h2]
  have h3 : (D.lst xs).plain DEEP = true := by show D.plainL 19 xs = true; exact h
  have h4 : (D.lst []).plain DEEP = true := rfl
  simp only [h3, h4]
  cases xs <;> simp [eqD, eqDL]
/-- a store's refs are its own -/
def ClS (S : Store) : Prop := ∀ (i : Nat) (o : Ob), S[i]? = some o → Ob.cl S.length o = true
theorem GenAt.cl {S S' : Store} {g m : Nat} (h : ClS S) (s : SameBut g S S') (hg : GenAt S' g m) : ClS S' := fun i o ho => by
  rw [s.1]
  by_cases hi : i = g
  · subst hi
    obtain ⟨a, b, c, e, _⟩ := hg
    rw [e] at ho
    cases ho
    rfl
  · rw [s.2 i hi] at ho
    exact h i o ho
theorem fin_lst {S : Store} {b n k : Nat} {xs : List D} (hb : b ≤ n) (hS : S[n]? = some (.lst xs)) (hp : D.plainL k xs = true) (hc : ∀ i o, i < b → S[i]? = some o → Ob.cl b o = true) : finD false b (.ref n) S = .ok (.lst xs) (S.take b) := by
  have hlt := (List.getElem?_eq_some_iff.mp hS).1
  unfold finD
  rw [if_neg (by
    simp only [Bool.false_or, beq_iff_eq]
    omega)]
  have hf : flat S b 4 (.ref n) = some (.lst xs) := by
    unfold flat
    simp only [D.trav, if_neg (Nat.not_lt.mpr hb), hS]
    rw [plain_travL hp]
    rfl
  rw [hf]
  have h1 : (D.lst xs).cl b = true := by simp only [D.cl]; exact plain_clL hp
  have h2 : (S.take b).all (Ob.cl b) = true := by
    rw [List.all_eq_true]
    intro o ho
    obtain ⟨i, hi⟩ := List.mem_iff_getElem?.mp ho
    have hib : i < b := by have := (List.getElem?_eq_some_iff.mp hi).1; rw [List.length_take] at this; omega
    rw [List.getElem?_take_of_lt hib] at hi
    exact hc i o hib hi
  simp only [h1, h2]
  rfl
theorem blsD_mapC {xs : List D} {f : D → Bool} : blsD (xs.map fun x => .bl (f x)) = some (xs.map f) := by
  induction xs with
  | nil => rfl
  | cons x xs ih => simp [blsD, ih]
theorem intsD_mapC : ∀ (ns : List Int), intsD (ns.map .int) = some ns
  | [] => rfl
  | n :: ns => by simp [intsD, intsD_mapC ns]
/-! ## the script's cells -/
def gCell : Def := ⟨2, 2, false,
    (.cons (.ifs (.cmp .lt (.loc 1) (.bi false .len (.cons (.loc 0) .nil))) (.cons (.ret (.ix (.loc 0) (.loc 1)))
    .nil) .nil)
    (.cons (.ret (.bin false .mod (.bi false .sum (.cons (.sl false (.loc 0) .nop (.cst (.int 1))) .nil)) (.cst (.int 1000003))))
    .nil))⟩
theorem cutD_map {α β : Type} (f : α → β) (xs : List α) (a b : Option Int) : cutD (xs.map f) a b = (cutD xs a b).map f := by
  unfold cutD
  rw [List.length_map, ← List.map_drop, ← List.map_take]
theorem cell_ok {P : List Def} {F n ic : Nat} (hc : P[ic]? = some gCell) (ns : List Int) (hn : ns.length ≤ 1000) (i : Nat) (S : Store) : ∃ z, LH.call P F (n + 1) ic [.scr ns, .int (i : Int)] S = .ok (.int z) S := by
  by_cases h : i < ns.length
  · refine ⟨ns[i], call_ret hc rfl ?_ (.inr rfl)⟩
    have hat : atD (ns.map D.int) (i : Int) = some (.int ns[i]) := by
      rw [at_n (k := i) _ (by simpa using h)]
      simp
    have h' : (i : Int) < (ns.length : Int) := by omega
    simp [gCell, startE, h', hat]
  · refine ⟨((cutD ns none (some 1)).sum).fmod 1000003, call_ret hc rfl ?_ (.inr rfl)⟩
    have h' : ¬ (i : Int) < (ns.length : Int) := by omega
    have hl : (cutD ns none (some 1)).length ≤ 16000000 := by
      unfold cutD
      rw [List.length_take, List.length_drop]
      omega
    have hsl : slD false (.scr ns) none (some 1) S = .ok (.lst ((cutD ns none (some 1)).map .int)) S := by
      show mkL false (cutD (ns.map .int) none (some 1)) S = _
      rw [cutD_map, mkL_f _ _ (by simpa using hl)]
    have hsum : biD false .sum [.lst ((cutD ns none (some 1)).map .int)] S = .ok (.int (cutD ns none (some 1)).sum) S := by
      show (match (lstD S (.lst ((cutD ns none (some 1)).map .int))).bind intsD with
        | some is => R.ok (D.int is.sum) S
        | _ => .no) = _
      simp [intsD_mapC]
    simp [gCell, startE, h', partE, E.isNop, hsl, hsum]
def gGenerator (c : Nat) : Def := ⟨3, 2, true,
    (.cons (.asg (.nm 2) (.call c (.cons (.loc 0) (.cons (.loc 1) .nil))))
    (.cons (.ret (.lst true (.cons (.bin false .mod (.bi false .int (.cons (.bi false .max (.cons (.bin false .sub (.loc 2) (.bin false .pow (.cst (.int 10)) (.cst (.int 18)))) (.cons (.cst (.int 0)) .nil))) .nil)) (.bin false .pow (.bin false .pow (.cst (.int 10)) (.cst (.int 60))) (.cst (.int 10)))) (.cons (.bin false .mod (.bi false .int (.cons (.loc 2) .nil)) (.cst (.int 2147483647))) (.cons (.bin false .mul (.cst (.int 1000)) (.loc 1)) .nil)))))
    .nil))⟩
theorem generator_ok {P : List Def} {F n ic ig : Nat} (hc : P[ic]? = some gCell) (hg : P[ig]? = some (gGenerator ic)) (ns : List Int) (hn : ns.length ≤ 1000) (i : Nat) (hi : i ≤ 1000) (S : Store) :
    ∃ a b : Int, 0 ≤ b ∧ b < 2147483647 ∧ LH.call P F (n + 2) ig [.scr ns, .int (i : Int)] S = .ok (.ref S.length) (S ++ [.lst [.int a, .int b, .int (1000 * (i : Int))]]) := by
  obtain ⟨z, hz⟩ := cell_ok (F := F) (n := n) hc ns hn i S
  refine ⟨(if (0 : Int) > z - 10 ^ 18 then 0 else z - 10 ^ 18).fmod ((10 ^ 60) ^ 10), z.fmod 2147483647, (fmod_range (by decide)).1, (fmod_range (by decide)).2, ?_⟩
  have s1 : smallI 1000 = true := small64 (by decide)
  have s2 : smallI (i : Int) = true := small64 (by omega)
  have p1 : (10 : Int).natAbs < 2 ^ 200 := by decide
  have p2 : ((10 : Int) ^ 60).natAbs < 2 ^ 200 := by decide +kernel
  have p3 : ((10 : Int) ^ 60) ^ 10 ≠ 0 := by decide +kernel
  have e1 : binD false .pow (.int 10) (.int 18) S = .ok (.int (10 ^ 18)) S := by rw [o_powI, if_pos ⟨by decide, by decide, p1⟩]; rfl
  have e2 : binD false .pow (.int 10) (.int 60) S = .ok (.int (10 ^ 60)) S := by rw [o_powI, if_pos ⟨by decide, by decide, p1⟩]; rfl
  have e3 : binD false .pow (.int (10 ^ 60)) (.int 10) S = .ok (.int ((10 ^ 60) ^ 10)) S := by rw [o_powI, if_pos ⟨by decide, by decide, p2⟩]; rfl
  have e4 : ∀ x : Int, binD false .mod (.int x) (.int ((10 ^ 60) ^ 10)) S = .ok (.int (x.fmod ((10 ^ 60) ^ 10))) S := fun x => by rw [o_modI, if_pos p3]
  have e5 : binD false .mod (.int z) (.int 2147483647) S = .ok (.int (z.fmod 2147483647)) S := by rw [o_modI, if_pos (by decide)]
  refine call_ret hg rfl ?_ (.inl rfl)
  simp only [gGenerator, semB, semS, semE, semL, semX, E.isX, toX_ok, startE, hz, R.noex_ok, R.bind_ok, toS_ok, asgG, k_int, k_none, k_bool, k_str, List.map_cons, List.map_nil, List.length_cons, List.length_nil, List.getD_cons_zero, List.getD_cons_succ, R.opt_some, List.replicate, List.cons_append, List.nil_append, Nat.reduceAdd, Nat.reduceSub, List.set_cons_zero, List.set_cons_succ, e1, e2, e3, o_subI, b_max2, b_int, e4, e5, o_mulI, s1, s2, Bool.and_self, if_true]
  rw [mkL_t _ _ (by simp)]
  rfl
theorem gen_new (S : Store) {a b c : Int} {m : Nat} (h0 : 0 ≤ b) (h1 : b < 2147483647) (h2 : 0 ≤ c) (h3 : c ≤ m) : GenAt (S ++ [.lst [.int a, .int b, .int c]]) S.length m := ⟨a, b, c, by rw [List.getElem?_append_right (Nat.le_refl _)]; simp, h0, h1, h2, h3⟩
end LH

namespace LH
open PySem hiding call truthy
open PySem.W L2 PySem.Spec PyProof.Rows
def gSameE (s : Nat) : E := (.call s (.cons (.loc 3) (.cons (.loc 4) .nil)))
def gSame (s : Nat) : Def := ⟨5, 2, false,
    (.cons (.ifs (.isi (.loc 1) [.list, .tuple] false) (.cons (.asg (.nm 2) (.and (.cmp .eq (.isi (.loc 0) [.list] true) (.isi (.loc 1) [.list] true)) (.cmp .eq (.isi (.loc 0) [.tuple] true) (.isi (.loc 1) [.tuple] true))))
    (.cons (.ret (.and (.loc 2) (.and (.cmp .eq (.bi false .len (.cons (.loc 0) .nil)) (.bi false .len (.cons (.loc 1) .nil))) (.bi false .all (.cons (.lc false [((Str.ofString "one"), 3), ((Str.ofString "other"), 4)] (gSameE s) (.tp (.cons (.nm 3) (.cons (.nm 4) .nil))) (.zip (.loc 0) (.loc 1)) .nil) .nil)))))
    .nil)) .nil)
    (.cons (.ifs (.or (.isi (.loc 0) [.list, .tuple] false) (.cmp .ne (.cmp .is_ (.loc 0) (.cst .none)) (.cmp .is_ (.loc 1) (.cst .none)))) (.cons (.ret (.cst (.bool false)))
    .nil) .nil)
    (.cons (.asg (.nm 2) (.and (.cmp .eq (.isi (.loc 0) [.bool] true) (.isi (.loc 1) [.bool] true)) (.cmp .eq (.isi (.loc 0) [.int] true) (.isi (.loc 1) [.int] true))))
    (.cons (.ret (.and (.loc 2) (.and (.cmp .eq (.isi (.loc 0) [.str] true) (.isi (.loc 1) [.str] true)) (.cmp .eq (.loc 0) (.loc 1)))))
    .nil))))⟩
mutual
/-- what _law_same can look through, n calls deep -/
def sOk : Nat → D → Bool
  | 0, _ => false
  | _ + 1, .non => true
  | _ + 1, .bl _ => true
  | _ + 1, .int _ => true
  | _ + 1, .str _ => true
  | n + 1, .lst xs => decide (xs.length ≤ 16000000) && sOkL n xs
  | n + 1, .tup xs => decide (xs.length ≤ 16000000) && sOkL n xs
  | _, _ => false
def sOkL : Nat → List D → Bool
  | _, [] => true
  | n, x :: xs => sOk n x && sOkL n xs
end
theorem sOkL_mem {n : Nat} : ∀ {xs : List D}, sOkL n xs = true → ∀ x ∈ xs, sOk n x = true
  | [], _, x, h => by simp at h
  | y :: ys, h, x, hx => by
    simp only [sOkL, Bool.and_eq_true] at h
    rcases List.mem_cons.mp hx with rfl | hx
    · exact h.1
    · exact sOkL_mem h.2 x hx
theorem cmpEq_non {S : Store} : cmpD S .eq .non .non = some true := rfl
theorem zip_self (xs : List D) : ((xs.zip xs).map fun p => D.tup [p.1, p.2]) = xs.map fun x => .tup [x, x] := by
  induction xs with
  | nil => rfl
  | cons x xs ih => simp [ih]
theorem same_ok {P : List Def} {F is : Nat} (hs : P[is]? = some (gSame is)) (S : Store) : ∀ (n : Nat) (d : D), sOk n d = true → LH.call P F n is [d, d] S = .ok (.bl true) S
  | 0, d, h => by simp [sOk] at h
  | n + 1, d, h => by
    refine call_ret hs rfl ?_ (.inr rfl)
    cases d with
    | lst xs =>
      simp only [sOk, Bool.and_eq_true, decide_eq_true_eq] at h
      have hl : lcRun (.fix ((xs.zip xs).map fun p => .tup [p.1, p.2])) (lcBody (.tp (.cons (.nm 3) (.cons (.nm 4) .nil))) [3, 4] (semC (LH.call P F n) .nil) (semE (LH.call P F n) (gSameE is)) [some (.lst xs), some (.lst xs), some (.bl true), none, none]) ((xs.zip xs).map fun p => .tup [p.1, p.2]) 0 S
          = .ok (((xs.zip xs).map fun p => D.tup [p.1, p.2]).filterMap fun _ => some (.bl true)) S := by
        refine lc_fix _ _ fun p hp => ?_
        rw [zip_self] at hp
        obtain ⟨x, hx, rfl⟩ := List.mem_map.mp hp
        have ih := same_ok (F := F) hs S n x (sOkL_mem h.2 x hx)
        simp [lcBody, asgG, asgL, wipeE, gSameE, ih]
      have hf : (((xs.zip xs).map fun p => D.tup [p.1, p.2]).filterMap fun _ => some (D.bl true)) = xs.map fun _ => .bl true := by
        rw [zip_self]
        clear hl h
        induction xs with
        | nil => rfl
        | cons x xs ih => simpa using ih
      rw [hf] at hl
      have hmk : mkL false (xs.map fun _ => D.bl true) S = .ok (.lst (xs.map fun _ => D.bl true)) S := mkL_f _ _ (by simpa using h.1)
      have hall : biD false .all [.lst (xs.map fun _ => D.bl true)] S = .ok (.bl true) S := by
        show (match (lstD S (.lst (xs.map fun _ => D.bl true))).bind blsD with
          | some bs => R.ok (D.bl (bs.all id)) S
          | _ => .no) = _
        rw [l_lst, Option.bind_some, blsD_mapC (f := fun _ => true)]
        simp
      simp [gSame, startE, asgG, hl, hmk, hall, Ty.le, Ty.ix]
    | tup xs =>
      simp only [sOk, Bool.and_eq_true, decide_eq_true_eq] at h
      have hl : lcRun (.fix ((xs.zip xs).map fun p => .tup [p.1, p.2])) (lcBody (.tp (.cons (.nm 3) (.cons (.nm 4) .nil))) [3, 4] (semC (LH.call P F n) .nil) (semE (LH.call P F n) (gSameE is)) [some (.tup xs), some (.tup xs), some (.bl true), none, none]) ((xs.zip xs).map fun p => .tup [p.1, p.2]) 0 S
          = .ok (((xs.zip xs).map fun p => D.tup [p.1, p.2]).filterMap fun _ => some (.bl true)) S := by
        refine lc_fix _ _ fun p hp => ?_
        rw [zip_self] at hp
        obtain ⟨x, hx, rfl⟩ := List.mem_map.mp hp
        have ih := same_ok (F := F) hs S n x (sOkL_mem h.2 x hx)
        simp [lcBody, asgG, asgL, wipeE, gSameE, ih]
      have hf : (((xs.zip xs).map fun p => D.tup [p.1, p.2]).filterMap fun _ => some (D.bl true)) = xs.map fun _ => .bl true := by
        rw [zip_self]
        clear hl h
        induction xs with
        | nil => rfl
        | cons x xs ih => simpa using ih
      rw [hf] at hl
      have hmk : mkL false (xs.map fun _ => D.bl true) S = .ok (.lst (xs.map fun _ => D.bl true)) S := mkL_f _ _ (by simpa using h.1)
      have hall : biD false .all [.lst (xs.map fun _ => D.bl true)] S = .ok (.bl true) S := by
        show (match (lstD S (.lst (xs.map fun _ => D.bl true))).bind blsD with
          | some bs => R.ok (D.bl (bs.all id)) S
          | _ => .no) = _
        rw [l_lst, Option.bind_some, blsD_mapC (f := fun _ => true)]
        simp
      simp [gSame, startE, asgG, hl, hmk, hall, Ty.le, Ty.ix]
    | non => simp [gSame, startE, asgG, Ty.le, Ty.ix, cmpEq_non]
    | bl b => simp [gSame, startE, asgG, Ty.le, Ty.ix]
    | int i => simp [gSame, startE, asgG, Ty.le, Ty.ix]
    | str x => simp [gSame, startE, asgG, Ty.le, Ty.ix]
    | dct _ _ _ => simp [sOk] at h
    | ref _ => simp [sOk] at h
    | fn _ => simp [sOk] at h
    | exc _ _ => simp [sOk] at h
    | scr _ => simp [sOk] at h
/-! ## pick, shuffle -/
def gPick (r : Nat) : Def := ⟨2, 2, false,
    (.cons (.ret (.ix (.loc 1) (.call r (.cons (.loc 0) (.cons (.bi false .len (.cons (.loc 1) .nil)) .nil)))))
    .nil)⟩
theorem pick_ok {P : List Def} {F n ih ir ip : Nat} (hh : P[ih]? = some gHash) (hr : P[ir]? = some (gRandom ih)) (hp : P[ip]? = some (gPick ir)) {S : Store} {g m : Nat} (hg : GenAt S g m) (hm : m ≤ 2 ^ 3000) {xs : List D} (h0 : xs ≠ []) (hb : xs.length ≤ 1000000000) :
    ∃ x S', x ∈ xs ∧ LH.call P F (n + 3) ip [.ref g, .lst xs] S = .ok x S' ∧ GenAt S' g (m + 100) ∧ SameBut g S S' := by
  have hl : 0 < xs.length := List.length_pos_iff.mpr h0
  have hbig : ((xs.length : Int)).natAbs < 2 ^ 1000 := by
    have h1 : (2 : Nat) ^ 30 ≤ 2 ^ 1000 := Nat.pow_le_pow_right (by decide) (by decide)
    have h2 : (1000000000 : Nat) < 2 ^ 30 := by decide
    omega
  obtain ⟨r, S', e1, e2, e3, e4, e5⟩ := random_ok (F := F) (n := n) hh hr hg hm (b := xs.length) (by omega) hbig
  obtain ⟨k, rfl⟩ := Int.eq_ofNat_of_zero_le e2
  have hk : k < xs.length := by omega
  refine ⟨xs[k], S', List.getElem_mem hk, call_ret hp rfl ?_ (.inr e5.1), e4, e5⟩
  have hat := at_n xs hk
  simp [gPick, startE, e1, hat]
def gShufT : E := (.cmp .ne (.loc 2) (.lst false .nil))
def gShufB (r : Nat) : B := (.cons (.exp (.me false .append (.loc 3) (.cons (.me false .pop (.loc 2) (.cons (.call r (.cons (.loc 0) (.cons (.bi false .len (.cons (.loc 2) .nil)) .nil))) .nil)) .nil)))
    .nil)
def gShuffled (r : Nat) : Def := ⟨4, 2, false,
    (.cons (.par [2, 3] (.cons (.bi true .list (.cons (.loc 1) .nil)) (.cons (.lst true .nil) .nil)))
    (.cons (.while_ gShufT (gShufB r))
    (.cons (.ret (.loc 3))
    .nil)))⟩
/-- the state while the balls are drawn -/
structure ShSt (S0 S : Store) (g m : Nat) (left found : List D) : Prop where
  len : S.length = S0.length + 2
  l : S[S0.length]? = some (.lst left)
  f : S[S0.length + 1]? = some (.lst found)
  gn : GenAt S g m
  o : ∀ i, i < S0.length → i ≠ g → S[i]? = S0[i]?
theorem perm_take {α : Type} : ∀ {l : List α} {j : Nat} (h : j < l.length), ([l[j]] ++ l.eraseIdx j).Perm l
  | [], _, h => by simp at h
  | x :: l, 0, _ => by simp
  | x :: l, j + 1, h => by
    have ih := perm_take (l := l) (j := j) (by simpa using h)
    simp only [List.getElem_cons_succ, List.eraseIdx_cons_succ, List.singleton_append] at ih ⊢
    exact (List.Perm.swap _ _ _).trans (ih.cons x)
theorem shuf_loop {P : List Def} {F n ih ir : Nat} (hh : P[ih]? = some gHash) (hr : P[ir]? = some (gRandom ih)) {S0 : Store} {g : Nat} (hg0 : g < S0.length) (t : D) : ∀ (left found : List D) (m fuel : Nat) (S : Store), ShSt S0 S g m left found → D.plainL 19 left = true → m + 100 * left.length ≤ 2 ^ 3000 → left.length + found.length ≤ 15000000 → left.length < fuel →
    ∃ S' found', whileRun (semT (LH.call P F (n + 2)) gShufT) (semB (LH.call P F (n + 2)) F (gShufB ir)) fuel [some (.ref g), some t, some (.ref S0.length), some (.ref (S0.length + 1))] S = .nx [some (.ref g), some t, some (.ref S0.length), some (.ref (S0.length + 1))] S' ∧ (found'.Perm (found ++ left)) ∧ ShSt S0 S' g (m + 100 * left.length) [] found' := by
  intro left
  induction hk : left.length generalizing left with
  | zero =>
    intro found m fuel S st hp hm hl hf
    have : left = [] := List.eq_nil_of_length_eq_zero hk
    subst this
    cases fuel with
    | zero => omega
    | succ fuel =>
      refine ⟨S, found, ?_, by simp, st⟩
      have h1 := ne_nil st.l hp
      have h2 : mkL false [] S = .ok (.lst []) S := mkL_f _ _ (by simp)
      simp [whileRun, gShufT, h1, h2]
  | succ k ih2 =>
    intro found m fuel S st hp hm hl hf
    cases fuel with
    | zero => omega
    | succ fuel =>
      have hne : left ≠ [] := fun e => by rw [e] at hk; simp at hk
      have h1 := ne_nil st.l hp
      have h2 : mkL false [] S = .ok (.lst []) S := mkL_f _ _ (by simp)
      have hlb : ((left.length : Nat) : Int).natAbs < 2 ^ 1000 := by
        have h1 : (2 : Nat) ^ 30 ≤ 2 ^ 1000 := Nat.pow_le_pow_right (by decide) (by decide)
        have h2 : (1000000000 : Nat) < 2 ^ 30 := by decide
        omega
      obtain ⟨r, S1, e1, e2, e3, e4, e5⟩ := random_ok (F := F) (n := n) hh hr st.gn (by omega) (b := left.length) (by omega) hlb
      obtain ⟨j, rfl⟩ := Int.eq_ofNat_of_zero_le e2
      have hj : j < left.length := by omega
      have g1 : S0.length ≠ g := by omega
      have g2 : S0.length + 1 ≠ g := by omega
      have l1 : S1[S0.length]? = some (.lst left) := (e5.2 _ g1).trans st.l
      have f1 : S1[S0.length + 1]? = some (.lst found) := (e5.2 _ g2).trans st.f
      have len1 : S1.length = S0.length + 2 := e5.1.trans st.len
      have f2 : (S1.set S0.length (.lst (left.eraseIdx j)))[S0.length + 1]? = some (.lst found) := by rw [List.getElem?_set_ne (by omega)]; exact f1
      have hix : ixI left.length (j : Int) = some j := by
        unfold ixI
        rw [if_pos (by omega), if_pos (by omega)]
        rfl
      have epop : meD false .pop (.ref S0.length) [.int (j : Int)] S1 = .ok left[j] (S1.set S0.length (.lst (left.eraseIdx j))) := by
        have hll : left.length ≤ 16000000 := by omega
        simp [meD, mePop, l1, hix, hj, hll]
      have eapp := app_ref f2 (by simp; omega) false left[j]
      obtain ⟨S', found', e6, e7, e8⟩ := ih2 (left.eraseIdx j) (by rw [List.length_eraseIdx_of_lt hj]; omega) (found ++ [left[j]]) (m + 100) fuel ((S1.set S0.length (.lst (left.eraseIdx j))).set (S0.length + 1) (.lst (found ++ [left[j]]))) {
          len := by rw [List.length_set, List.length_set]; exact len1
          l := by rw [List.getElem?_set_ne (by omega), List.getElem?_set_self (by omega)]
          f := by rw [List.getElem?_set_self (by rw [List.length_set]; omega)]
          gn := by
            obtain ⟨a, b, c, q, q2⟩ := e4
            exact ⟨a, b, c, by rw [List.getElem?_set_ne (by omega), List.getElem?_set_ne (by omega)]; exact q, q2⟩
          o := fun i hi hig => by
            rw [List.getElem?_set_ne (by omega), List.getElem?_set_ne (by omega), e5.2 i hig]
            exact st.o i hi hig } (by
          rw [plainL_iff] at hp ⊢
          exact fun d hd => hp d (List.mem_of_mem_eraseIdx hd)) (by omega) (by rw [List.length_append]; simp; omega) (by omega)
      refine ⟨S', found', ?_, ?_, by rw [show m + 100 * (k + 1) = m + 100 + 100 * k by omega]; exact e8⟩
      · simp only [whileRun]
        have hT : semT (LH.call P F (n + 2)) gShufT [some (.ref g), some t, some (.ref S0.length), some (.ref (S0.length + 1))] S = .ok true S := by
          simp [gShufT, h1, h2, hne]
        rw [hT]
        have hB : semB (LH.call P F (n + 2)) F (gShufB ir) [some (.ref g), some t, some (.ref S0.length), some (.ref (S0.length + 1))] S = .nx [some (.ref g), some t, some (.ref S0.length), some (.ref (S0.length + 1))] ((S1.set S0.length (.lst (left.eraseIdx j))).set (S0.length + 1) (.lst (found ++ [left[j]]))) := by
          have q1 := rcv_app st.f
          have q2 := rcv_pop st.l
          have q3 := len_ref st.l
          simp only [gShufB, semB, semS, semE, semL, semX, E.isX, toX_ok, Bool.false_eq_true, if_false, toS_ok, R.opt_some, R.bind_ok, List.getD_cons_zero, List.getD_cons_succ, q1, q2, b_len, q3, Option.map_some, e1, R.noex_ok, epop, eapp, if_true]
        simp only [toS_ok, if_true]
        rw [hB]
        exact e6
      · refine e7.trans ?_
        rw [List.append_assoc]
        refine List.Perm.append_left _ ?_
        exact perm_take hj
theorem shuffled_ok {P : List Def} {F n ih ir is : Nat} (hh : P[ih]? = some gHash) (hr : P[ir]? = some (gRandom ih)) (hs : P[is]? = some (gShuffled ir)) {S : Store} {g m : Nat} (hg : GenAt S g m) (hC : ClS S) {xs : List D} (hp : D.plainL 19 xs = true) (hm : m + 100 * xs.length ≤ 2 ^ 3000) (hb : xs.length ≤ 1000000) (hF : xs.length < F) :
    ∃ ys S', LH.call P F (n + 3) is [.ref g, .lst xs] S = .ok (.lst ys) S' ∧ ys.Perm xs ∧ GenAt S' g (m + 100 * xs.length) ∧ SameBut g S S' := by
  have hlt : g < S.length := by obtain ⟨_, _, _, e, _⟩ := hg; exact (List.getElem?_eq_some_iff.mp e).1
  obtain ⟨S', ys, e1, e2, e3⟩ := shuf_loop (F := F) (n := n) hh hr (S0 := S) hlt (.lst xs) xs [] m F (S ++ [.lst xs] ++ [.lst []]) {
      len := by simp
      l := by simp
      f := by rw [List.getElem?_append_right (by simp)]; simp
      gn := by
        obtain ⟨a, b, c, q, q2⟩ := hg
        exact ⟨a, b, c, by rw [List.append_assoc, List.getElem?_append_left hlt]; exact q, q2⟩
      o := fun i hi _ => by rw [List.append_assoc, List.getElem?_append_left hi] } hp hm (by simp; omega) hF
  have hcl : ∀ i o, i < S.length → S'[i]? = some o → Ob.cl S.length o = true := fun i o hi ho => by
    by_cases hig : i = g
    · subst hig
      obtain ⟨a, b, c, q, _⟩ := e3.gn
      rw [q] at ho
      cases ho
      rfl
    · rw [e3.o i hi hig] at ho
      exact hC i o ho
  have hpy : D.plainL 19 ys = true := by
    rw [plainL_iff] at hp ⊢
    exact fun d hd => hp d (by simpa using e2.mem_iff.mp hd)
  refine ⟨ys, S'.take S.length, ?_, by simpa using e2, ?_, ?_⟩
  · have hbody : semB (LH.call P F (n + 2)) F (gShuffled ir).body (startE (gShuffled ir) [.ref g, .lst xs]) S = .rt (.ref (S.length + 1)) S' := by
      have h1 : mkL true xs S = .ok (.ref S.length) (S ++ [.lst xs]) := mkL_t _ _ (by simp; omega)
      have h2 : mkL true [] (S ++ [Ob.lst xs]) = .ok (.ref (S.length + 1)) (S ++ [.lst xs] ++ [.lst []]) := by
        rw [mkL_t _ _ (by simp)]
        simp
      simp only [gShuffled, semB, semS, semE, semL, semX, E.isX, toX_ok, Bool.false_eq_true, if_false, startE, toS_ok, R.opt_some, R.bind_ok, List.getD_cons_zero, List.getD_cons_succ, b_list, h1, h2, asgN, List.map_cons, List.map_nil, List.length_cons, List.length_nil, List.replicate, List.cons_append, List.nil_append, Nat.reduceAdd, Nat.reduceSub, List.set_cons_zero, List.set_cons_succ]
      rw [e1]
      rfl
    have hfin := fin_lst (Nat.le_succ _) e3.f hpy hcl
    rw [call_rt hs rfl hbody]
    exact hfin
  · obtain ⟨a, b, c, q, q2⟩ := e3.gn
    exact ⟨a, b, c, by rw [List.getElem?_take_of_lt hlt]; exact q, q2⟩
  · refine ⟨by rw [List.length_take, e3.len]; omega, fun i hi => ?_⟩
    by_cases hil : i < S.length
    · rw [List.getElem?_take_of_lt hil]; exact e3.o i hil hi
    · rw [List.getElem?_eq_none (by rw [List.length_take]; omega), List.getElem?_eq_none (by omega)]
end LH

namespace LH
open PySem hiding call truthy
open PySem.W L2 PySem.Spec PyProof.Rows
/-! ## repr answers -/
def KY.rk : KY → Bool
  | .k (.inl i) => decide (-999999999999 ≤ i ∧ i ≤ 999999999999)
  | .k (.inr x) => x.cps.toList.all fun c => decide (c < 16 ^ 8)
  | .t _ => false
def KY.sz : KY → Nat
  | .k (.inr x) => x.cps.size
  | _ => 0
mutual
/-- small leaves, at most n deep -/
def D.rk : Nat → D → Bool
  | _, .non => true
  | _, .bl _ => true
  | _, .int i => decide (-999999999999 ≤ i ∧ i ≤ 999999999999)
  | _, .str x => x.cps.toList.all fun c => decide (c < 16 ^ 8)
  | n + 1, .lst xs => D.rkL n xs
  | n + 1, .tup xs => D.rkL n xs
  | n + 1, .dct _ ks xs => ks.all KY.rk && D.rkL n xs
  | _, _ => false
def D.rkL : Nat → List D → Bool
  | _, [] => true
  | n, x :: xs => D.rk n x && D.rkL n xs
end
mutual
def D.sz : D → Nat
  | .str x => x.cps.size
  | .lst xs => D.szL xs
  | .tup xs => D.szL xs
  | .dct _ ks xs => (ks.map KY.sz).sum + D.szL xs + xs.length
  | _ => 0
def D.szL : List D → Nat
  | [] => 0
  | x :: xs => D.sz x + 1 + D.szL xs
end
theorem rkL_iff {n : Nat} : ∀ {xs : List D}, D.rkL n xs = true ↔ ∀ x ∈ xs, x.rk n = true
  | [] => by simp [D.rkL]
  | x :: xs => by simp [D.rkL, rkL_iff (xs := xs)]
theorem pyL_len : ∀ xs : List D, (D.pyL xs).length = xs.length
  | [] => rfl
  | x :: xs => by simp [D.pyL, pyL_len xs]
theorem int_show {i : Int} (h : -999999999999 ≤ i ∧ i ≤ 999999999999) : (PyData.int i).showable = true ∧ (PyData.int i).leavesShort 13 = true := by
  refine ⟨?_, decide_eq_true (PyData.shown_int_le2 h.1 h.2)⟩
  refine decide_eq_true ?_
  have h1 : i.natAbs < 2 ^ 40 := by
    have : (999999999999 : Nat) < 2 ^ 40 := by decide
    omega
  by_cases h0 : i.natAbs = 0
  · rw [h0]; decide
  · have := (Nat.log2_lt h0).mpr h1
    omega
mutual
theorem rk_all {g : Nat → Option D} : ∀ {n : Nat} {d : D}, d.rk n = true → D.trav g d = some d ∧ d.plainR n = true ∧ d.py.showable = true ∧ d.py.leavesShort 13 = true ∧ d.py.bulk ≤ d.sz
  | n, .non, _ => by cases n <;> exact ⟨by simp [D.trav], rfl, rfl, rfl, Nat.le_refl _⟩
  | n, .bl _, _ => by cases n <;> exact ⟨by simp [D.trav], rfl, rfl, rfl, Nat.le_refl _⟩
  | n, .int i, h => by
    have h : -999999999999 ≤ i ∧ i ≤ 999999999999 := by cases n <;> simpa [D.rk] using h
    have q := int_show h
    cases n <;> exact ⟨by simp [D.trav], rfl, q.1, q.2, Nat.le_refl _⟩
  | n, .str x, h => by
    have h : (x.cps.toList.all fun c => decide (c < 16 ^ 8)) = true := by cases n <;> simpa [D.rk] using h
    cases n <;> exact ⟨by simp [D.trav], rfl, rfl, h, Nat.le_refl _⟩
  | 0, .lst _, h => by simp [D.rk] at h
  | 0, .tup _, h => by simp [D.rk] at h
  | 0, .dct _ _ _, h => by simp [D.rk] at h
  | n + 1, .lst xs, h => by
    obtain ⟨h1, h2, h3, h4, h5⟩ := rk_allL (g := g) (n := n) (xs := xs) (by simpa [D.rk] using h)
    exact ⟨by simp [D.trav, h1], by simpa [D.plainR] using h2, h3, h4, h5⟩
  | n + 1, .tup xs, h => by
    obtain ⟨h1, h2, h3, h4, h5⟩ := rk_allL (g := g) (n := n) (xs := xs) (by simpa [D.rk] using h)
    exact ⟨by simp [D.trav, h1], by simpa [D.plainR] using h2, h3, h4, h5⟩
  | n + 1, .dct t ks xs, h => by
    have h : ks.all KY.rk = true ∧ D.rkL n xs = true := by simpa [D.rk] using h
    obtain ⟨h1, h2, h3, h4, h5⟩ := rk_allL (g := g) (n := n) (xs := xs) h.2
    refine ⟨by simp [D.trav, h1], by simpa [D.plainR] using h2, ?_⟩
    have key : ∀ (ks : List KY) (ys : List PyData) , ks.all KY.rk = true → PyData.showableAll ys = true → PyData.leavesShortAll 13 ys = true →
        PyData.showableKv ((ks.map KY.py).zip ys) = true ∧ PyData.leavesShortKv 13 ((ks.map KY.py).zip ys) = true ∧ PyData.bulkKv ((ks.map KY.py).zip ys) ≤ (ks.map KY.sz).sum + PyData.bulkAll ys + ys.length := by
      intro ks
      induction ks with
      | nil => intro ys _ _ _; exact ⟨rfl, rfl, Nat.zero_le _⟩
      | cons k ks ih =>
        intro ys hk a b
        cases ys with
        | nil => exact ⟨rfl, rfl, Nat.zero_le _⟩
        | cons y ys =>
          rw [List.all_cons, Bool.and_eq_true] at hk
          simp only [PyData.showableAll, PyData.leavesShortAll, Bool.and_eq_true] at a b
          obtain ⟨i1, i2, i3⟩ := ih ys hk.2 a.2 b.2
          have kk : (KY.py k).showable = true ∧ (KY.py k).leavesShort 13 = true ∧ (KY.py k).bulk ≤ KY.sz k := by
            cases k with
            | t _ => cases hk.1
            | k z =>
              cases z with
              | inl i =>
                have q := int_show (i := i) (by simpa [KY.rk] using hk.1)
                exact ⟨q.1, q.2, Nat.le_refl _⟩
              | inr x => exact ⟨rfl, hk.1, Nat.le_refl _⟩
          simp only [List.map_cons, List.zip_cons_cons, PyData.showableKv, PyData.leavesShortKv, PyData.bulkKv, PyData.bulkAll, Bool.and_eq_true, List.sum_cons, List.length_cons]
          exact ⟨⟨⟨kk.1, a.1⟩, i1⟩, ⟨⟨kk.2.1, b.1⟩, i2⟩, by omega⟩
    obtain ⟨q1, q2, q3⟩ := key ks (D.pyL xs) h.1 h3 h4
    have hl := pyL_len xs
    refine ⟨q1, q2, Nat.le_trans q3 ?_⟩
    simp only [D.sz]
    omega
  | n, .ref _, h => by cases n <;> simp [D.rk] at h
  | n, .fn _, h => by cases n <;> simp [D.rk] at h
  | n, .exc _ _, h => by cases n <;> simp [D.rk] at h
  | n, .scr _, h => by cases n <;> simp [D.rk] at h
theorem rk_allL {g : Nat → Option D} : ∀ {n : Nat} {xs : List D}, D.rkL n xs = true → D.travL g xs = some xs ∧ D.plainRL n xs = true ∧ PyData.showableAll (D.pyL xs) = true ∧ PyData.leavesShortAll 13 (D.pyL xs) = true ∧ PyData.bulkAll (D.pyL xs) ≤ D.szL xs
  | n, [], _ => ⟨by simp [D.travL], by simp [D.plainRL], rfl, rfl, Nat.le_refl _⟩
  | n, x :: xs, h => by
    have h : x.rk n = true ∧ D.rkL n xs = true := by simpa [D.rkL] using h
    obtain ⟨a1, a2, a3, a4, a5⟩ := rk_all (g := g) h.1
    obtain ⟨b1, b2, b3, b4, b5⟩ := rk_allL (g := g) h.2
    refine ⟨by simp [D.travL, a1, b1], by simp [D.plainRL, a2, b2], by simp [D.pyL, PyData.showableAll, a3, b3], by simp [D.pyL, PyData.leavesShortAll, a4, b4], ?_⟩
    simp only [D.pyL, PyData.bulkAll, D.szL]
    omega
end
theorem repr_ok {d : D} {S : Store} {m : Bool} (h : d.rk 20 = true) (hs : d.sz ≤ 1000000) : biD m .repr [d] S = .ok (.str (PyData.shown d.py)) S := by
  have hrd : rd S d = some d := by
    unfold rd flat
    exact (rk_all h).1
  obtain ⟨_, h2, h3, h4, h5⟩ := rk_all (g := fun _ => none) h
  have hl := PyData.shown_le_bulk 13 (by decide) d.py h4
  have hl2 : (PyData.shown d.py).length ≤ LMAX := by unfold LMAX; omega
  show biRepr [d] S = _
  unfold biRepr
  have h2' : d.plainR DEEP = true := h2
  simp only [hrd, h2', h3, decide_eq_true hl2]
  rfl
end LH

namespace LH
open PySem hiding call truthy
open PySem.W L2 PySem.Spec PyProof.Rows
/-! ## fractions: Euclid, lowest terms -/
section
variable {test : LH.Env → Store → R Bool} {body : LH.Env → Store → RS} {S : Store} {rest : LH.Env}
theorem euclid1 (ht : ∀ a b : Nat, test (some (.int a) :: some (.int b) :: rest) S = .ok (decide (0 < b)) S)
    (hb : ∀ a b : Nat, 0 < b → body (some (.int a) :: some (.int b) :: rest) S = .nx (some (.int b) :: some (.int (a % b : Nat)) :: rest) S) (a b fuel : Nat) :
    whileRun test body (fuel + 1) (some (.int a) :: some (.int b) :: rest) S = if b = 0 then .nx (some (.int a) :: some (.int b) :: rest) S else whileRun test body fuel (some (.int b) :: some (.int (a % b : Nat)) :: rest) S := by
  simp only [whileRun, ht, toS_ok]
  by_cases h : b = 0
  · subst h; simp
  · have hp : 0 < b := Nat.pos_of_ne_zero h
    simp only [decide_eq_true hp, if_true, if_neg h, hb a b hp]
theorem euclid (ht : ∀ a b : Nat, test (some (.int a) :: some (.int b) :: rest) S = .ok (decide (0 < b)) S)
    (hb : ∀ a b : Nat, 0 < b → body (some (.int a) :: some (.int b) :: rest) S = .nx (some (.int b) :: some (.int (a % b : Nat)) :: rest) S) :
    ∀ (n a b fuel : Nat), b < 2 ^ n → 2 * n + 1 ≤ fuel → whileRun test body fuel (some (.int a) :: some (.int b) :: rest) S = .nx (some (.int (Nat.gcd a b : Nat)) :: some (.int (0 : Nat)) :: rest) S
  | 0, a, b, fuel, h, hf => by
    obtain ⟨f, rfl⟩ : ∃ f, fuel = f + 1 := ⟨fuel - 1, by omega⟩
    have : b = 0 := by simpa using h
    subst this
    rw [euclid1 ht hb, if_pos rfl, Nat.gcd_zero_right]
  | n + 1, a, b, fuel, h, hf => by
    obtain ⟨f, rfl⟩ : ∃ f, fuel = f + 2 := ⟨fuel - 2, by omega⟩
    rw [euclid1 ht hb]
    by_cases h0 : b = 0
    · subst h0
      rw [if_pos rfl, Nat.gcd_zero_right]
    · rw [if_neg h0, euclid1 ht hb]
      by_cases h1 : a % b = 0
      · rw [if_pos h1, h1]
        have : Nat.gcd a b = b := Nat.gcd_eq_right (Nat.dvd_of_mod_eq_zero h1)
        rw [this]
      · rw [if_neg h1]
        have hlt : b % (a % b) < 2 ^ n := by
          have h2 : a % b < b := Nat.mod_lt _ (by omega)
          have h3 : b % (a % b) < a % b := Nat.mod_lt _ (by omega)
          have h4 : b % (a % b) + a % b ≤ b := by
            have := Nat.mod_add_div b (a % b)
            have h5 : 1 ≤ b / (a % b) := (Nat.one_le_div_iff (by omega)).mpr (by omega)
            have h6 : a % b * 1 ≤ a % b * (b / (a % b)) := Nat.mul_le_mul_left _ h5
            omega
          rw [Nat.pow_succ] at h
          omega
        rw [euclid ht hb n _ _ _ hlt (by omega)]
        have e1 : Nat.gcd (a % b) (b % (a % b)) = Nat.gcd a b := by
          rw [Nat.gcd_comm (a % b), ← Nat.gcd_rec, Nat.gcd_comm a b, Nat.gcd_rec b a]
        rw [e1]
end
/-- the loops of common_of: what stands for one -/
def gComT : E := (.cmp .gt (.loc 1) (.cst (.int 0)))
def gComB (e : E) : B := (.cons (.par [0, 1] (.cons (.loc 1) (.cons (.bin false .mod e (.loc 1)) .nil))) .nil)
def gCommon (e : E) : Def := ⟨2, 2, false,
    (.cons (.par [0, 1] (.cons (.bi false .abs (.cons (.loc 0) .nil)) (.cons (.bi false .abs (.cons (.loc 1) .nil)) .nil)))
    (.cons (.while_ gComT (gComB e))
    (.cons (.ret (.loc 0))
    .nil)))⟩
def OneE (e : E) : Prop := ∀ (c : Nat → List D → Store → R D) (a : Int) (r : LH.Env) (S : Store), semE c e (some (.int a) :: r) S = .ok (.int a) S
theorem oneE_loc : OneE (.loc 0) := fun c a r S => by simp
theorem oneE_int : OneE (.bi false .int (.cons (.loc 0) .nil)) := fun c a r S => by simp
@[simp] theorem b_abs (m : Bool) (i : Int) (S : Store) : biD m .abs [.int i] S = .ok (.int (i.natAbs : Int)) S := by
  show R.ok (D.int (if i < 0 then -i else i)) S = _
  congr 2
  split <;> omega
theorem common_ok {P : List Def} {F n i : Nat} {e : E} (he : OneE e) (h : P[i]? = some (gCommon e)) {a b : Int} {k : Nat} (hb : b.natAbs < 2 ^ k) (hF : 2 * k + 1 ≤ F) (S : Store) : LH.call P F (n + 1) i [.int a, .int b] S = .ok (.int (Int.gcd a b : Nat)) S := by
  refine call_ret h rfl ?_ (.inr rfl)
  have loop := euclid (S := S) (rest := []) (test := semT (LH.call P F n) gComT) (body := semB (LH.call P F n) F (gComB e))
    (fun a b => by simp [gComT]) (fun a b hp => by
      have h0 : b ≠ 0 := by omega
      have e1 : (a : Int).fmod (b : Int) = (a : Int) % (b : Int) := Int.fmod_eq_emod_of_nonneg _ (by omega)
      simp [gComB, asgN, he _ _ _ _, h0, e1]) k a.natAbs b.natAbs F hb hF
  simp [gCommon, startE, asgN, loop]
  rfl
/-- a fraction in lowest terms -/
def fr (a b : Int) : D := .tup [.int (a / (Int.gcd a b : Nat)), .int (b / (Int.gcd a b : Nat))]
theorem fr_spec (a : Int) {b : Int} (hb : 0 < b) : ∃ p q : Int, fr a b = .tup [.int p, .int q] ∧ 0 < q ∧ a * q = p * b ∧ p.natAbs ≤ a.natAbs ∧ q ≤ b ∧ Nat.Coprime p.natAbs q.natAbs := by
  have hg : 0 < Int.gcd a b := Int.gcd_pos_of_ne_zero_right _ (by omega)
  have h1 : ((Int.gcd a b : Nat) : Int) ∣ a := Int.gcd_dvd_left ..
  have h2 : ((Int.gcd a b : Nat) : Int) ∣ b := Int.gcd_dvd_right ..
  have e1 := Int.ediv_mul_cancel h1
  have e2 := Int.ediv_mul_cancel h2
  have hc : Nat.Coprime (a / (Int.gcd a b : Nat)).natAbs (b / (Int.gcd a b : Nat)).natAbs := by
    rw [Int.natAbs_ediv_of_dvd h1, Int.natAbs_ediv_of_dvd h2]
    simp only [Int.natAbs_natCast]
    exact Nat.coprime_div_gcd_div_gcd hg
  generalize hG : ((Int.gcd a b : Nat) : Int) = g at *
  have hg' : 0 < g := by omega
  refine ⟨a / g, b / g, by unfold fr; rw [hG], ?_, ?_, ?_, ?_, hc⟩
  · exact Int.ediv_pos_of_pos_of_dvd hb (by omega) h2
  · generalize a / g = x at *
    generalize b / g = y at *
    subst e1 e2
    grind
  · generalize a / g = x at *
    subst e1
    rw [Int.natAbs_mul]
    exact Nat.le_mul_of_pos_right _ (by omega)
  · have hp := Int.ediv_pos_of_pos_of_dvd hb (by omega) h2
    generalize b / g = y at *
    subst e2
    have : y * 1 ≤ y * g := Int.mul_le_mul_of_nonneg_left (by omega) (by omega)
    omega
theorem fr_eq {a b c d : Int} (hb : 0 < b) (hd : 0 < d) (h : a * d = c * b) : fr a b = fr c d := by
  obtain ⟨p, q, e1, q0, h1, _, _, c1⟩ := fr_spec a hb
  obtain ⟨p', q', e2, q0', h2, _, _, c2⟩ := fr_spec c hd
  have hx : p * q' = p' * q := by
    have : (p * q') * (b * d) = (p' * q) * (b * d) := by grind
    exact Int.eq_of_mul_eq_mul_right (by have := Int.mul_pos hb hd; omega) this
  have hn : p.natAbs * q'.natAbs = p'.natAbs * q.natAbs := by rw [← Int.natAbs_mul, ← Int.natAbs_mul, hx]
  have d1 : q.natAbs ∣ q'.natAbs := c1.symm.dvd_of_dvd_mul_left ⟨p'.natAbs, by rw [hn]; exact Nat.mul_comm _ _⟩
  have d2 : q'.natAbs ∣ q.natAbs := c2.symm.dvd_of_dvd_mul_left ⟨p.natAbs, by rw [← hn]; exact Nat.mul_comm _ _⟩
  have hq : q = q' := by have := Nat.dvd_antisymm d1 d2; omega
  subst hq
  have hp : p = p' := Int.eq_of_mul_eq_mul_right (by omega) hx
  rw [e1, e2, hp]
def gLow (c : Nat) : Def := ⟨3, 2, false,
    (.cons (.asg (.nm 2) (.call c (.cons (.loc 0) (.cons (.loc 1) .nil))))
    (.cons (.ret (.tup (.cons (.bin false .fdiv (.loc 0) (.loc 2)) (.cons (.bin false .fdiv (.loc 1) (.loc 2)) .nil))))
    .nil))⟩
def gLowest (c : Nat) : Def := ⟨3, 2, false,
    (.cons (.asg (.nm 2) (.call c (.cons (.loc 0) (.cons (.loc 1) .nil))))
    (.cons (.ifs (.cmp .lt (.loc 1) (.cst (.int 0))) (.cons (.asg (.nm 2) (.bin false .sub (.cst (.int 0)) (.loc 2)))
    .nil) .nil)
    (.cons (.ret (.tup (.cons (.bin false .fdiv (.loc 0) (.loc 2)) (.cons (.bin false .fdiv (.loc 1) (.loc 2)) .nil))))
    .nil)))⟩
/-- what makes lowest terms -/
structure LowAt (P : List Def) (i : Nat) (n0 : Nat) : Prop where
  ok : ∀ (F n : Nat) (a b : Int) (S : Store), n0 ≤ n → 20000 ≤ F → 0 < b → a.natAbs < 2 ^ 8000 → b.natAbs < 2 ^ 8000 → LH.call P F n i [.int a, .int b] S = .ok (fr a b) S
theorem small_gcd {a b : Int} (hb : 0 < b) (h : b.natAbs < 2 ^ 8000) : smallI (Int.gcd a b : Nat) = true := by
  refine small_pow (k := 8000) ?_ (by decide)
  have : Int.gcd a b ≤ b.natAbs := Nat.le_of_dvd (by omega) (Int.gcd_dvd_natAbs_right a b)
  simp only [Int.natAbs_natCast]
  omega
theorem low_at {P : List Def} {c i : Nat} {e : E} (he : OneE e) (hc : P[c]? = some (gCommon e)) (hi : P[i]? = some (gLow c)) : LowAt P i 2 := ⟨fun F n a b S hn hF hb h1 h2 => by
  obtain ⟨n, rfl⟩ : ∃ m, n = m + 2 := ⟨n - 2, by omega⟩
  refine call_ret hi rfl ?_ (.inr rfl)
  have e1 := common_ok (n := n) (F := F) he hc (a := a) (b := b) (k := 8000) h2 (by omega) S
  have hg : (Int.gcd a b : Int) ≠ 0 := by
    have := Int.gcd_pos_of_ne_zero_right a (b := b) (by omega)
    omega
  have hs := small_gcd (a := a) hb h2
  generalize LH.call P F (n + 1) = cc at e1 ⊢
  have f1 : ∀ x : Int, x.fdiv (Int.gcd a b : Nat) = x / (Int.gcd a b : Nat) := fun x => Int.fdiv_eq_ediv_of_nonneg _ (by omega)
  unfold fr
  generalize ((Int.gcd a b : Nat) : Int) = g at *
  simp [gLow, startE, asgG, e1, hs, hg, f1, LMAX]⟩
theorem lowest_at {P : List Def} {c i : Nat} {e : E} (he : OneE e) (hc : P[c]? = some (gCommon e)) (hi : P[i]? = some (gLowest c)) : LowAt P i 2 := ⟨fun F n a b S hn hF hb h1 h2 => by
  obtain ⟨n, rfl⟩ : ∃ m, n = m + 2 := ⟨n - 2, by omega⟩
  refine call_ret hi rfl ?_ (.inr rfl)
  have e1 := common_ok (n := n) (F := F) he hc (a := a) (b := b) (k := 8000) h2 (by omega) S
  have hg : (Int.gcd a b : Int) ≠ 0 := by
    have := Int.gcd_pos_of_ne_zero_right a (b := b) (by omega)
    omega
  have hs := small_gcd (a := a) hb h2
  generalize LH.call P F (n + 1) = cc at e1 ⊢
  have f1 : ∀ x : Int, x.fdiv (Int.gcd a b : Nat) = x / (Int.gcd a b : Nat) := fun x => Int.fdiv_eq_ediv_of_nonneg _ (by omega)
  have hb' : ¬ b < 0 := by omega
  unfold fr
  generalize ((Int.gcd a b : Nat) : Int) = g at *
  simp [gLowest, startE, asgG, e1, hs, hg, f1, LMAX, hb']⟩
def gPlus (l : Nat) : Def := ⟨2, 2, false,
    (.cons (.ret (.call l (.cons (.bin false .add (.bin false .mul (.ix (.loc 0) (.cst (.int 0))) (.ix (.loc 1) (.cst (.int 1)))) (.bin false .mul (.ix (.loc 1) (.cst (.int 0))) (.ix (.loc 0) (.cst (.int 1))))) (.cons (.bin false .mul (.ix (.loc 0) (.cst (.int 1))) (.ix (.loc 1) (.cst (.int 1)))) .nil))))
    .nil)⟩
def gTimes (l : Nat) : Def := ⟨2, 2, false,
    (.cons (.ret (.call l (.cons (.bin false .mul (.ix (.loc 0) (.cst (.int 0))) (.ix (.loc 1) (.cst (.int 0)))) (.cons (.bin false .mul (.ix (.loc 0) (.cst (.int 1))) (.ix (.loc 1) (.cst (.int 1)))) .nil))))
    .nil)⟩
def gLess : Def := ⟨2, 2, false,
    (.cons (.ret (.cmp .lt (.bin false .mul (.ix (.loc 0) (.cst (.int 0))) (.ix (.loc 1) (.cst (.int 1)))) (.bin false .mul (.ix (.loc 1) (.cst (.int 0))) (.ix (.loc 0) (.cst (.int 1))))))
    .nil)⟩
/-- a bound on a fraction's parts -/
def FB (k : Nat) (a b : Int) : Prop := 0 < b ∧ a.natAbs < 2 ^ k ∧ b.natAbs < 2 ^ k
theorem add_lt_pow {a b : Int} {k : Nat} (ha : a.natAbs < 2 ^ k) (hb : b.natAbs < 2 ^ k) : (a + b).natAbs < 2 ^ (k + 1) := by
  have := Int.natAbs_add_le a b
  rw [Nat.pow_succ]
  omega
theorem pow_up {x k m : Nat} (h : x < 2 ^ k) (hk : k ≤ m) : x < 2 ^ m := Nat.lt_of_lt_of_le h (Nat.pow_le_pow_right (by decide) hk)
theorem plus_ok {P : List Def} {F n l i n0 : Nat} (L : LowAt P l n0) (hi : P[i]? = some (gPlus l)) {a b c d : Int} (h1 : FB 3900 a b) (h2 : FB 3900 c d) (S : Store) (hn : n0 ≤ n) (hF : 20000 ≤ F) : LH.call P F (n + 1) i [fr a b, fr c d] S = .ok (fr (a * d + c * b) (b * d)) S := by
  obtain ⟨hb, ha1, hb1⟩ := h1
  obtain ⟨hd, hc1, hd1⟩ := h2
  obtain ⟨p, q, e1, q0, h3, pb, qb, _⟩ := fr_spec a hb
  obtain ⟨p', q', e2, q0', h4, pb', qb', _⟩ := fr_spec c hd
  have hp : p.natAbs < 2 ^ 3900 := by omega
  have hq : q.natAbs < 2 ^ 3900 := by omega
  have hp' : p'.natAbs < 2 ^ 3900 := by omega
  have hq' : q'.natAbs < 2 ^ 3900 := by omega
  rw [e1, e2]
  have m1 := natAbs_mul_lt hp hq'
  have m2 := natAbs_mul_lt hp' hq
  have m3 := natAbs_mul_lt hq hq'
  have s1 := small_pow hp (by decide)
  have s2 := small_pow hq (by decide)
  have s3 := small_pow hp' (by decide)
  have s4 := small_pow hq' (by decide)
  have hqq : 0 < q * q' := Int.mul_pos q0 q0'
  have lk := L.ok F n (p * q' + p' * q) (q * q') S hn hF hqq (pow_up (add_lt_pow m1 m2) (by decide)) (pow_up m3 (by decide))
  have ef : fr (p * q' + p' * q) (q * q') = fr (a * d + c * b) (b * d) := fr_eq hqq (Int.mul_pos hb hd) (by grind)
  rw [ef] at lk
  refine call_ret hi rfl ?_ (.inr rfl)
  generalize LH.call P F n = cc at lk ⊢
  generalize fr (a * d + c * b) (b * d) = z at lk ⊢
  simp [gPlus, startE, s1, s2, s3, s4, lk]
theorem times_ok {P : List Def} {F n l i n0 : Nat} (L : LowAt P l n0) (hi : P[i]? = some (gTimes l)) {a b c d : Int} (h1 : FB 3900 a b) (h2 : FB 3900 c d) (S : Store) (hn : n0 ≤ n) (hF : 20000 ≤ F) : LH.call P F (n + 1) i [fr a b, fr c d] S = .ok (fr (a * c) (b * d)) S := by
  obtain ⟨hb, ha1, hb1⟩ := h1
  obtain ⟨hd, hc1, hd1⟩ := h2
  obtain ⟨p, q, e1, q0, h3, pb, qb, _⟩ := fr_spec a hb
  obtain ⟨p', q', e2, q0', h4, pb', qb', _⟩ := fr_spec c hd
  have hp : p.natAbs < 2 ^ 3900 := by omega
  have hq : q.natAbs < 2 ^ 3900 := by omega
  have hp' : p'.natAbs < 2 ^ 3900 := by omega
  have hq' : q'.natAbs < 2 ^ 3900 := by omega
  rw [e1, e2]
  have m1 := natAbs_mul_lt hp hp'
  have m3 := natAbs_mul_lt hq hq'
  have s1 := small_pow hp (by decide)
  have s2 := small_pow hq (by decide)
  have s3 := small_pow hp' (by decide)
  have s4 := small_pow hq' (by decide)
  have hqq : 0 < q * q' := Int.mul_pos q0 q0'
  have lk := L.ok F n (p * p') (q * q') S hn hF hqq (pow_up m1 (by decide)) (pow_up m3 (by decide))
  have ef : fr (p * p') (q * q') = fr (a * c) (b * d) := fr_eq hqq (Int.mul_pos hb hd) (by grind)
  rw [ef] at lk
  refine call_ret hi rfl ?_ (.inr rfl)
  generalize LH.call P F n = cc at lk ⊢
  generalize fr (a * c) (b * d) = z at lk ⊢
  simp [gTimes, startE, s1, s2, s3, s4, lk]
theorem less_ok {P : List Def} {F n i : Nat} (hi : P[i]? = some gLess) {a b c d : Int} (h1 : FB 3900 a b) (h2 : FB 3900 c d) (S : Store) : LH.call P F (n + 1) i [fr a b, fr c d] S = .ok (.bl (decide (a * d < c * b))) S := by
  obtain ⟨hb, ha1, hb1⟩ := h1
  obtain ⟨hd, hc1, hd1⟩ := h2
  obtain ⟨p, q, e1, q0, h3, pb, qb, _⟩ := fr_spec a hb
  obtain ⟨p', q', e2, q0', h4, pb', qb', _⟩ := fr_spec c hd
  have hp : p.natAbs < 2 ^ 3900 := by omega
  have hq : q.natAbs < 2 ^ 3900 := by omega
  have hp' : p'.natAbs < 2 ^ 3900 := by omega
  have hq' : q'.natAbs < 2 ^ 3900 := by omega
  rw [e1, e2]
  have s1 := small_pow hp (by decide)
  have s2 := small_pow hq (by decide)
  have s3 := small_pow hp' (by decide)
  have s4 := small_pow hq' (by decide)
  have key : decide (p * q' < p' * q) = decide (a * d < c * b) := by
    have hbd := Int.mul_pos hb hd
    have hqq := Int.mul_pos q0 q0'
    have k1 : (p * q') * (b * d) = (a * d) * (q * q') := by grind
    have k2 : (p' * q) * (b * d) = (c * b) * (q * q') := by grind
    by_cases h : p * q' < p' * q
    · have := Int.mul_lt_mul_of_pos_right h hbd
      rw [k1, k2] at this
      have := Int.lt_of_mul_lt_mul_right this (Int.le_of_lt hqq)
      simp [h, this]
    · have h' : p' * q ≤ p * q' := by omega
      have := Int.mul_le_mul_of_nonneg_right h' (Int.le_of_lt hbd)
      rw [k1, k2] at this
      have := Int.le_of_mul_le_mul_right this hqq
      have h3 : ¬ (a * d < c * b) := by omega
      simp [h, h3]
  refine call_ret hi rfl ?_ (.inr rfl)
  simp [gLess, startE, s1, s2, s3, s4, key]
end LH

namespace LH
open PySem hiding call truthy
open PySem.W L2 PySem.Spec PyProof.Rows
/-! ## what many laws share: lotteries, all draws, the generators in the store -/
theorem asg_nm (i : Nat) (d : D) (ρ : LH.Env) : asgG (.nm i) d ρ = some (ρ.set i (some d)) := id rfl
def lotS : Str := ⟨#[108, 111, 116, 116, 101, 114, 121]⟩
def lot (b k : Int) : D := .tup [.str lotS, .int b, .int k]
theorem small_nat {b : Int} {k : Nat} (h0 : 0 ≤ b) (h1 : b ≤ (k : Int)) (hk : k ≤ 1000000) : b.natAbs < 2 ^ 1000 := by
  have h1 : (2 : Nat) ^ 20 ≤ 2 ^ 1000 := Nat.pow_le_pow_right (by decide) (by decide)
  have h2 : (1048576 : Nat) = 2 ^ 20 := by decide
  omega
theorem small_nat' {x : Nat} (h : x ≤ 1000000) : (x : Int).natAbs < 2 ^ 8000 := by
  have h1 : (2 : Nat) ^ 20 ≤ 2 ^ 8000 := Nat.pow_le_pow_right (by decide) (by decide)
  have h2 : (1048576 : Nat) = 2 ^ 20 := by decide
  omega
/-- balls up to most, of which as many are drawn as balls, or as six -/
def gLottery6 (r : Nat) : Def := ⟨3, 2, false,
    (.cons (.asg (.nm 2) (.bin false .add (.cst (.int 1)) (.call r (.cons (.loc 0) (.cons (.loc 1) .nil)))))
    (.cons (.ret (.tup (.cons (.cst (.str ⟨#[108, 111, 116, 116, 101, 114, 121]⟩)) (.cons (.loc 2) (.cons (.bin false .add (.cst (.int 1)) (.call r (.cons (.loc 0) (.cons (.bi false .min (.cons (.loc 2) (.cons (.cst (.int 6)) .nil))) .nil)))) .nil)))))
    .nil))⟩
theorem lottery6_ok {P : List Def} {F n ih ir i : Nat} (hh : P[ih]? = some gHash) (hr : P[ir]? = some (gRandom ih)) (hi : P[i]? = some (gLottery6 ir)) {S : Store} {g m : Nat} (hg : GenAt S g m) (hm : m + 100 ≤ 2 ^ 3000) {most : Int} (h1 : 1 ≤ most) (h2 : most ≤ 1000) :
    ∃ b k S', LH.call P F (n + 3) i [.ref g, .int most] S = .ok (lot b k) S' ∧ 1 ≤ k ∧ k ≤ b ∧ b ≤ most ∧ k ≤ 6 ∧ GenAt S' g (m + 200) ∧ SameBut g S S' := by
  obtain ⟨r, S1, e1, r0, r1, g1, s1⟩ := random_ok (F := F) (n := n) hh hr hg (by omega) (b := most) (by omega) (small_nat (k := 1000) (by omega) (by omega) (by decide))
  obtain ⟨z, hz⟩ : ∃ z : Int, z = if (6 : Int) < 1 + r then 6 else 1 + r := ⟨_, rfl⟩
  have hz1 : 1 ≤ z ∧ z ≤ 6 ∧ z ≤ 1 + r := by rw [hz]; split <;> omega
  obtain ⟨q, S2, e2, q0, q1, g2, s2⟩ := random_ok (F := F) (n := n) hh hr g1 hm (b := z) (by omega) (small_nat (k := 6) (by omega) (by omega) (by decide))
  refine ⟨1 + r, 1 + q, S2, call_ret hi rfl ?_ (.inr (s1.trans s2).1), by omega, by omega, by omega, by omega, g2, s1.trans s2⟩
  have hb : ∀ S, biD false .min [.int (1 + r), .int 6] S = .ok (.int z) S := fun S => by rw [b_min2, hz]
  have lim : (3 : Nat) ≤ LMAX := by decide
  generalize LH.call P F (n + 2) = cc at e1 e2 ⊢
  simp only [b_min2] at hb
  simp [gLottery6, startE, asgG, e1, hb, e2, lot, lotS]
def gLottery (r : Nat) : Def := ⟨3, 2, false,
    (.cons (.asg (.nm 2) (.bin false .add (.cst (.int 1)) (.call r (.cons (.loc 0) (.cons (.loc 1) .nil)))))
    (.cons (.ret (.tup (.cons (.cst (.str ⟨#[108, 111, 116, 116, 101, 114, 121]⟩)) (.cons (.loc 2) (.cons (.bin false .add (.cst (.int 1)) (.call r (.cons (.loc 0) (.cons (.loc 2) .nil)))) .nil)))))
    .nil))⟩
theorem lottery_ok {P : List Def} {F n ih ir i : Nat} (hh : P[ih]? = some gHash) (hr : P[ir]? = some (gRandom ih)) (hi : P[i]? = some (gLottery ir)) {S : Store} {g m : Nat} (hg : GenAt S g m) (hm : m + 100 ≤ 2 ^ 3000) {most : Int} (h1 : 1 ≤ most) (h2 : most ≤ 1000) :
    ∃ b k S', LH.call P F (n + 3) i [.ref g, .int most] S = .ok (lot b k) S' ∧ 1 ≤ k ∧ k ≤ b ∧ b ≤ most ∧ GenAt S' g (m + 200) ∧ SameBut g S S' := by
  obtain ⟨r, S1, e1, r0, r1, g1, s1⟩ := random_ok (F := F) (n := n) hh hr hg (by omega) (b := most) (by omega) (small_nat (k := 1000) (by omega) (by omega) (by decide))
  obtain ⟨q, S2, e2, q0, q1, g2, s2⟩ := random_ok (F := F) (n := n) hh hr g1 hm (b := 1 + r) (by omega) (small_nat (k := 1000) (by omega) (by omega) (by decide))
  refine ⟨1 + r, 1 + q, S2, call_ret hi rfl ?_ (.inr (s1.trans s2).1), by omega, by omega, by omega, g2, s1.trans s2⟩
  simp [gLottery, startE, asgG, e1, e2, lot, lotS]
theorem ne_nilD {S : Store} {xs : List D} (h : D.plainL 19 xs = true) : cmpD S .ne (.lst xs) (.lst []) = some (!xs.isEmpty) ∧ cmpD S .eq (.lst xs) (.lst []) = some xs.isEmpty := by
  have h1 : rd S (.lst xs) = some (.lst xs) := rd_plain' (k := 20) (by simpa [D.plain] using h)
  have h2 : rd S (.lst []) = some (.lst []) := rd_plain' (k := 1) (by simp [D.plain, D.plainL])
  have h3 : (D.lst xs).plain DEEP = true := by show D.plainL 19 xs = true; exact h
  have h4 : (D.lst []).plain DEEP = true := rfl
  have e : cmpEq S (.lst xs) (.lst []) = some xs.isEmpty := by
    unfold cmpEq
    simp only [h1, h2, h3, h4]
    cases xs <;> simp [eqD, eqDL]
  exact ⟨by show (cmpEq S (.lst xs) (.lst [])).map (!·) = _; rw [e]; rfl, e⟩
theorem plain_ints (ns : List Int) : D.plainL 19 (ns.map .int) = true := by
  rw [plainL_iff]
  intro d hd
  obtain ⟨n, _, rfl⟩ := List.mem_map.mp hd
  rfl
theorem at_int {ns : List Int} {i : Nat} (h : i < ns.length) : atD (ns.map D.int) (i : Int) = some (.int ns[i]) := by
  rw [at_n (k := i) _ (by simpa using h)]
  simp
def gAllE0 : E := (.bin false .add (.loc 4) (.lst false (.cons (.loc 5) .nil)))
def gAllB0 : B := (.cons (.asg (.nm 3) (.bin false .add (.loc 3) (.lc false [((Str.ofString "ball"), 5)] gAllE0 (.nm 5) (.rng2 (.ite (.cmp .ne (.loc 4) (.lst false .nil)) (.bin false .add (.ix (.loc 4) (.neg (.cst (.int 1)))) (.cst (.int 1))) (.cst (.int 1))) (.bin false .add (.ix (.loc 0) (.cst (.int 1))) (.cst (.int 1)))) .nil)))
    .nil)
def gAllB1 : B := (.cons (.asg (.nm 3) (.lst false .nil))
    (.cons (.for_ (.nm 4) (.it (.loc 1)) gAllB0)
    (.cons (.asg (.nm 1) (.loc 3))
    .nil)))
def gAllDraws : Def := ⟨6, 1, false,
    (.cons (.asg (.nm 1) (.lst false (.cons (.lst false .nil) .nil)))
    (.cons (.for_ (.nm 2) (.rng1 (.ix (.loc 0) (.cst (.int 2)))) gAllB1)
    (.cons (.ret (.loc 1))
    .nil)))⟩
/-! the draws -/
def nxt (b : Int) (r : List Int) : List Int :=
  let lo := match r.getLast? with
    | some x => x + 1
    | none => 1
  (List.range (b + 1 - lo).toNat).map fun (i : Nat) => lo + i
def ext (b : Int) (r : List Int) : List (List Int) := (nxt b r).map fun x => r ++ [x]
def iter (b : Int) : Nat → List (List Int)
  | 0 => [[]]
  | t + 1 => (iter b t).flatMap (ext b)
theorem iter_ok : ∀ b ∈ [1, 2, 3, 4, 5, 6, 7, 8, 9], ∀ t ∈ List.range 10, ((iter (b : Int) t).length ≤ 200 ∧ (∀ r ∈ iter (b : Int) t, (∀ x ∈ r, 1 ≤ x ∧ x ≤ b) ∧ r.length = t) ∧ (t ≤ b.toNat → iter b t ≠ [])) := by decide +kernel
def encR (rows : List (List Int)) : List D := rows.map fun r => .lst (r.map .int)
theorem at_last (r : List Int) (x : Int) : atD ((r ++ [x]).map D.int) (-1) = some (.int x) := by
  have h : ixI ((r ++ [x]).map D.int).length (-1) = some r.length := by
    unfold ixI
    rw [if_neg (by decide), if_pos (by simp; omega)]
    congr 1
    simp
    omega
  unfold atD
  rw [h]
  simp
theorem nxt_len {b : Int} {r : List Int} (hb : b ≤ 9) (hr : ∀ x ∈ r, 1 ≤ x ∧ x ≤ b) : (nxt b r).length ≤ 10 := by
  unfold nxt
  rw [List.length_map, List.length_range]
  cases h : r.getLast? with
  | none => show (b + 1 - 1).toNat ≤ 10; omega
  | some x =>
    have := hr x (List.mem_of_getLast? h)
    show (b + 1 - (x + 1)).toNat ≤ 10
    omega
theorem row_step {cc : Nat → List D → Store → R D} {b k : Int} (hb : 1 ≤ b ∧ b ≤ 9) {r : List Int} (hr : ∀ x ∈ r, 1 ≤ x ∧ x ≤ b) (hrl : r.length ≤ 9) {acc : List D} (ha : acc.length ≤ 1000000) {F : Nat} (q1 q2 : Option D) (S : Store) :
    semB cc F gAllB0 [some (lot b k), q1, q2, some (.lst acc), some (.lst (r.map .int)), none] S = .nx [some (lot b k), q1, q2, some (.lst (acc ++ encR (ext b r))), some (.lst (r.map .int)), none] S := by
  have hlo : ∃ lo : Int, 1 ≤ lo ∧ lo ≤ 10 ∧ nxt b r = ((List.range (b + 1 - lo).toNat).map fun (i : Nat) => lo + i) ∧
      semE cc (.ite (.cmp .ne (.loc 4) (.lst false .nil)) (.bin false .add (.ix (.loc 4) (.neg (.cst (.int 1)))) (.cst (.int 1))) (.cst (.int 1))) [some (lot b k), q1, q2, some (.lst acc), some (.lst (r.map .int)), none] S = .ok (.int lo) S := by
    have hne := (ne_nilD (S := S) (plain_ints r)).1
    have hmk := mkL_f S [] (by simp)
    rcases List.eq_nil_or_concat r with rfl | ⟨r', x, rfl⟩
    · refine ⟨1, by omega, by omega, rfl, ?_⟩
      simp [hmk] at hne ⊢
      simp [hne]
    · have hx := hr x (by simp)
      rw [List.concat_eq_append] at *
      have hat := at_last r' x
      have hem : ((r' ++ [x]).map D.int).isEmpty = false := by simp
      rw [hem] at hne
      refine ⟨x + 1, by omega, by omega, by unfold nxt; simp, ?_⟩
      generalize (r' ++ [x]).map D.int = rl at hat hne ⊢
      simp [hmk, hne, hat]
  obtain ⟨lo, l1, l2, en, el⟩ := hlo
  have ok1 : okR lo = true := decide_eq_true ⟨by omega, by omega⟩
  have ok2 : okR (b + 1) = true := decide_eq_true ⟨by omega, by omega⟩
  have hrun : lcRun (.fix (rngD lo (b + 1))) (lcBody (.nm 5) [5] (semC cc .nil) (semE cc gAllE0) [some (lot b k), q1, q2, some (.lst acc), some (.lst (r.map .int)), none]) (rngD lo (b + 1)) 0 S = .ok ((rngD lo (b + 1)).filterMap fun x => some (.lst (r.map .int ++ [x]))) S := by
    refine lc_fix _ _ fun x hx => ?_
    have h1 := mkL_f S [x] (by simp)
    have h2 := mkL_f S (r.map D.int ++ [x]) (by simp; omega)
    generalize r.map D.int = rl at h2 ⊢
    simp [lcBody, asgG, wipeE, gAllE0, h1, h2]
  have hmap : ((rngD lo (b + 1)).filterMap fun x => some (D.lst (r.map .int ++ [x]))) = encR (ext b r) := by
    unfold encR ext rngD
    rw [en, List.map_map, List.map_map, List.filterMap_map]
    generalize List.range (b + 1 - lo).toNat = L
    induction L with
    | nil => rfl
    | cons i L ih =>
      rw [List.filterMap_cons, List.map_cons, ← ih]
      simp
  rw [hmap] at hrun
  have hxl : (encR (ext b r)).length ≤ 10 := by
    unfold encR ext
    rw [List.length_map, List.length_map]
    exact nxt_len hb.2 hr
  have hm1 := mkL_f S (encR (ext b r)) (show _ ≤ 16000000 by omega)
  have hm2 := mkL_f S (acc ++ encR (ext b r)) (show _ ≤ 16000000 by rw [List.length_append]; omega)
  generalize encR (ext b r) = new at hrun hm1 hm2 ⊢
  generalize r.map D.int = rl at hrun el ⊢
  generalize hE : E.ite (.cmp .ne (.loc 4) (.lst false .nil)) (.bin false .add (.ix (.loc 4) (.neg (.cst (.int 1)))) (.cst (.int 1))) (.cst (.int 1)) = ee at el
  unfold lot at hrun el ⊢
  simp [gAllB0, hE, el, asgG, ok1, ok2, hrun, hm1, hm2]
theorem iter_at {b : Int} (hb : 1 ≤ b ∧ b ≤ 9) {t : Nat} (ht : t ≤ 9) : (iter b t).length ≤ 200 ∧ (∀ r ∈ iter b t, (∀ x ∈ r, 1 ≤ x ∧ x ≤ b) ∧ r.length = t) ∧ (t ≤ b.toNat → iter b t ≠ []) :=
  iter_ok b (by
    have : b = 1 ∨ b = 2 ∨ b = 3 ∨ b = 4 ∨ b = 5 ∨ b = 6 ∨ b = 7 ∨ b = 8 ∨ b = 9 := by omega
    simpa using this) t (List.mem_range.mpr (by omega))
theorem draws_ok {P : List Def} {F n i : Nat} (hi : P[i]? = some gAllDraws) {b k : Int} (h1 : 1 ≤ k) (h2 : k ≤ b) (h3 : b ≤ 9) (S : Store) : LH.call P F (n + 1) i [lot b k] S = .ok (.lst (encR (iter b k.toNat))) S := by
  have hb : 1 ≤ b ∧ b ≤ 9 := ⟨by omega, h3⟩
  have hok : okR k = true := decide_eq_true ⟨by omega, by omega⟩
  have hm1 := mkL_f S [] (by simp)
  have hm2 := mkL_f S [.lst []] (by simp)
  have hloop := for_fix0 (g := .nm 2) (ys := rngD 0 k) (body := semB (LH.call P F n) F gAllB1) (fun t ρ S' => S' = S ∧ ∃ q2 q3 q4, ρ = [some (lot b k), some (.lst (encR (iter b t))), q2, q3, q4, none]) (rngD 0 k) [some (lot b k), some (.lst [.lst []]), none, none, none, none] S ⟨rfl, none, none, none, rfl⟩ ?_
  · obtain ⟨ρ', S', e, rfl, q2, q3, q4, rfl⟩ := hloop
    have hlen : (rngD 0 k).length = k.toNat := by unfold rngD; simp
    rw [hlen] at e
    refine call_ret hi rfl ?_ (.inr rfl)
    unfold lot at e ⊢
    simp [gAllDraws, startE, asgG, hm1, hm2, hok, e]
  · intro t x ρ S' hx hI
    obtain ⟨rfl, q2, q3, q4, rfl⟩ := hI
    have ht : t < 9 := by
      have := (List.getElem?_eq_some_iff.mp hx).1
      unfold rngD at this
      rw [List.length_map, List.length_range] at this
      omega
    obtain ⟨l1, l2, _⟩ := iter_at hb (t := t) (by omega)
    obtain ⟨l3, _, _⟩ := iter_at hb (t := t + 1) (by omega)
    have hin := for_fix0 (g := .nm 4) (ys := encR (iter b t)) (body := semB (LH.call P F n) F gAllB0) (fun j ρ S2 => S2 = S' ∧ ∃ q4, ρ = [some (lot b k), some (.lst (encR (iter b t))), some x, some (.lst (encR (((iter b t).take j).flatMap (ext b)))), q4, none]) (encR (iter b t)) [some (lot b k), some (.lst (encR (iter b t))), some x, some (.lst []), q4, none] S' ⟨rfl, q4, rfl⟩ ?_
    · obtain ⟨ρ3, S3, e3, rfl, q5, rfl⟩ := hin
      have hl : (encR (iter b t)).length = (iter b t).length := by unfold encR; rw [List.length_map]
      rw [hl, List.take_length] at e3
      refine ⟨[some (lot b k), some (.lst (encR (iter b t))), some x, q3, q4, none], [some (lot b k), some (.lst (encR (iter b (t + 1)))), some x, some (.lst (encR (iter b (t + 1)))), q5, none], S3, rfl, .inl ?_, rfl, _, _, _, rfl⟩
      have hit : (iter b t).flatMap (ext b) = iter b (t + 1) := rfl
      rw [hit] at e3
      have hm := mkL_f S3 [] (by simp)
      generalize encR (iter b (t + 1)) = nw at e3 ⊢
      generalize encR (iter b t) = rows at e3 ⊢
      unfold lot at e3 ⊢
      simp [gAllB1, asgG, hm, e3]
    · intro j y ρ S2 hy hI
      obtain ⟨rfl, q5, rfl⟩ := hI
      unfold encR at hy
      rw [List.getElem?_map] at hy
      cases hr : (iter b t)[j]? with
      | none => rw [hr] at hy; cases hy
      | some r =>
        rw [hr] at hy
        cases hy
        obtain ⟨hj, hrj⟩ := List.getElem?_eq_some_iff.mp hr
        have hmem : r ∈ iter b t := hrj ▸ List.getElem_mem hj
        obtain ⟨m1, m2⟩ := l2 r hmem
        have htk : ((iter b t).take (j + 1)).flatMap (ext b) = ((iter b t).take j).flatMap (ext b) ++ ext b r := by
          rw [List.take_succ, hr]
          simp
        have hacc : (encR (((iter b t).take j).flatMap (ext b))).length ≤ 1000000 := by
          have e : iter b (t + 1) = ((iter b t).take j).flatMap (ext b) ++ ((iter b t).drop j).flatMap (ext b) := by
            rw [← List.flatMap_append, List.take_append_drop]
            rfl
          rw [e, List.length_append] at l3
          unfold encR
          rw [List.length_map]
          omega
        have st := row_step (cc := LH.call P F n) (k := k) hb m1 (by omega) hacc (F := F) (some (.lst (encR (iter b t)))) (some x) S2
        refine ⟨[some (lot b k), some (.lst (encR (iter b t))), some x, some (.lst (encR (((iter b t).take j).flatMap (ext b)))), some (.lst (r.map .int)), none], _, S2, rfl, .inl st, rfl, some (.lst (r.map .int)), ?_⟩
        rw [htk]
        unfold encR
        rw [List.map_append]
def GenOnly (S : Store) : Prop := ∀ (i : Nat) (o : Ob), S[i]? = some o → ∃ a b c : Int, o = .lst [.int a, .int b, .int c]
theorem GenOnly.cl {S : Store} (h : GenOnly S) : ClS S := fun i o ho => by
  obtain ⟨a, b, c, rfl⟩ := h i o ho
  rfl
theorem GenOnly.but {S S' : Store} {g m : Nat} (h : GenOnly S) (s : SameBut g S S') (hg : GenAt S' g m) : GenOnly S' := fun i o ho => by
  by_cases hi : i = g
  · subst hi
    obtain ⟨a, b, c, e, _⟩ := hg
    rw [e] at ho
    cases ho
    exact ⟨a, b, c, rfl⟩
  · rw [s.2 i hi] at ho
    exact h i o ho
theorem lim {x : Nat} (h : x ≤ 20000) : x ≤ 2 ^ 3000 := by
  have h1 : (2 : Nat) ^ 15 ≤ 2 ^ 3000 := Nat.pow_le_pow_right (by decide) (by decide)
  have h2 : (32768 : Nat) = 2 ^ 15 := by decide
  omega
theorem lc_map {α : Type} {body : D → Store → R (Option D)} {S : Store} {ys : List D} (g h : α → D) : ∀ (L : List α) (i : Nat), (∀ a ∈ L, body (g a) S = .ok (some (h a)) S) → lcRun (.fix ys) body (L.map g) i S = .ok (L.map h) S
  | [], i, _ => rfl
  | x :: xs, i, hb => by
    have h1 := hb x List.mem_cons_self
    have h2 := lc_map (ys := ys) g h xs (i + 1) fun y hy => hb y (List.mem_cons_of_mem _ hy)
    simp only [List.map_cons, lcRun, Src.cur, h1, R.noex_ok, R.bind_ok, h2]
theorem lc_sel {α : Type} {body : D → Store → R (Option D)} {S : Store} {ys : List D} (g h : α → D) (p : α → Bool) : ∀ (L : List α) (i : Nat), (∀ a ∈ L, body (g a) S = .ok (if p a then some (h a) else none) S) → lcRun (.fix ys) body (L.map g) i S = .ok ((L.filter p).map h) S
  | [], i, _ => rfl
  | x :: xs, i, hb => by
    have h1 := hb x List.mem_cons_self
    have h2 := lc_sel (ys := ys) g h p xs (i + 1) fun y hy => hb y (List.mem_cons_of_mem _ hy)
    simp only [List.map_cons, lcRun, Src.cur, h1, R.noex_ok, R.bind_ok, h2, List.filter_cons]
    cases p x <;> simp
end LH

namespace LH
open PySem hiding call truthy
open PySem.W L2 PySem.Spec PyProof.Rows
/-! ## ways to choose -/
def pas : Nat → Nat → Nat
  | _, 0 => 1
  | 0, _ + 1 => 0
  | n + 1, k + 1 => pas n k + pas n (k + 1)
theorem pas_zero (n : Nat) : pas n 0 = 1 := by cases n <;> rfl
theorem pas_step : ∀ n k : Nat, pas n (k + 1) * (k + 1) = pas n k * (n - k)
  | 0, k => by simp [pas]
  | n + 1, 0 => by
    have h1 : pas n 1 * 1 = pas n 0 * (n - 0) := pas_step n 0
    have h2 : pas n 0 = 1 := pas_zero n
    rw [h2] at h1
    show (pas n 0 + pas n 1) * 1 = 1 * (n + 1 - 0)
    rw [h2]
    omega
  | n + 1, k + 1 => by
    have h1 := pas_step n k
    have h2 := pas_step n (k + 1)
    show (pas n (k + 1) + pas n (k + 1 + 1)) * (k + 1 + 1) = (pas n k + pas n (k + 1)) * (n + 1 - (k + 1))
    rw [Nat.add_mul, Nat.add_mul, h2, show n + 1 - (k + 1) = n - k by omega, ← h1]
    by_cases h : k + 1 ≤ n
    · rw [← Nat.mul_add, ← Nat.mul_add, show k + 1 + 1 + (n - (k + 1)) = k + 1 + (n - k) by omega]
    · have h3 : n - k = 0 := by omega
      have h4 : n - (k + 1) = 0 := by omega
      rw [h3] at h1 ⊢
      rw [h4]
      have : pas n (k + 1) = 0 := by
        rw [Nat.mul_zero] at h1
        exact (Nat.mul_eq_zero.mp h1).resolve_right (by omega)
      rw [this]; simp
theorem pas_gt : ∀ n k : Nat, n < k → pas n k = 0
  | 0, k + 1, _ => rfl
  | n + 1, k + 1, h => by
    show pas n k + pas n (k + 1) = 0
    rw [pas_gt n k (by omega), pas_gt n (k + 1) (by omega)]
theorem pas_le : ∀ n k : Nat, pas n k ≤ 2 ^ n
  | n, 0 => by rw [pas_zero]; exact Nat.one_le_two_pow
  | 0, _ + 1 => by simp [pas]
  | n + 1, k + 1 => by
    show pas n k + pas n (k + 1) ≤ _
    have := pas_le n k
    have := pas_le n (k + 1)
    rw [Nat.pow_succ]
    omega
theorem pas_div (n k : Nat) : pas n (k + 1) = pas n k * (n - k) / (k + 1) := by
  rw [← pas_step]
  exact (Nat.mul_div_cancel _ (by omega)).symm
theorem pas_pos : ∀ n k : Nat, k ≤ n → 0 < pas n k
  | n, 0, _ => by rw [pas_zero]; decide
  | n + 1, k + 1, h => by
    show 0 < pas n k + pas n (k + 1)
    have := pas_pos n k (by omega)
    omega
def gPicksB : B := (.cons (.asg (.nm 2) (.bin false .fdiv (.bin false .mul (.loc 2) (.bin false .sub (.loc 0) (.loc 3))) (.bin false .add (.loc 3) (.cst (.int 1)))))
    .nil)
def gPicks : Def := ⟨4, 2, false,
    (.cons (.ifs (.or (.cmp .lt (.loc 1) (.cst (.int 0))) (.cmp .gt (.loc 1) (.loc 0))) (.cons (.ret (.cst (.int 0)))
    .nil) .nil)
    (.cons (.asg (.nm 2) (.cst (.int 1)))
    (.cons (.for_ (.nm 3) (.rng1 (.loc 1)) gPicksB)
    (.cons (.ret (.loc 2))
    .nil))))⟩
theorem rng_at {n : Int} {t : Nat} {x : D} (h : (rngD 0 n)[t]? = some x) : x = .int (t : Int) ∧ (t : Int) < n := by
  unfold rngD at h
  rw [List.getElem?_map, Option.map_eq_some_iff] at h
  obtain ⟨y, hy, rfl⟩ := h
  obtain ⟨h1, h2⟩ := List.getElem?_eq_some_iff.mp hy
  rw [List.length_range] at h1
  rw [List.getElem_range] at h2
  subst h2
  exact ⟨by simp, by omega⟩
theorem rng_len (n : Int) : (rngD 0 n).length = n.toNat := by unfold rngD; simp
theorem picks_loop {cc : Nat → List D → Store → R D} {F : Nat} {many few : Nat} (hm : many ≤ 2000) (hf : few ≤ many) (S : Store) (q : Option D) :
    ∃ q', forRun (.fix (rngD 0 few)) (.nm 3) (semB cc F gPicksB) (rngD 0 few) 0 [some (.int many), some (.int few), some (.int 1), q] S = .nx [some (.int many), some (.int few), some (.int (pas many few : Nat)), q'] S := by
  obtain ⟨ρ', S', e, rfl, q', rfl⟩ := for_fix0 (g := .nm 3) (ys := rngD 0 few) (body := semB cc F gPicksB) (fun t ρ S' => S' = S ∧ ∃ q', ρ = [some (.int many), some (.int few), some (.int (pas many t : Nat)), q']) (rngD 0 few) [some (.int many), some (.int few), some (.int 1), q] S ⟨rfl, q, by rw [pas_zero]; rfl⟩ (by
    intro t x ρ S' hx hI
    obtain ⟨rfl, q', rfl⟩ := hI
    obtain ⟨rfl, ht⟩ := rng_at hx
    have ht : t < few := by omega
    have b1 := pas_le many t
    have b2 : 2 ^ many ≤ 2 ^ 2000 := Nat.pow_le_pow_right (by decide) hm
    have b3 : (2 : Nat) ^ 2000 < 2 ^ 2001 := Nat.pow_lt_pow_right (by decide) (by decide)
    have s1 : smallI (pas many t : Nat) = true := small_pow (k := 2001) (by simp only [Int.natAbs_natCast]; omega) (by decide)
    have s2 : smallI ((many : Int) - (t : Int)) = true := small64 (by omega)
    have s3 : smallI ((t : Int) + 1) = true := small64 (by omega)
    have ne : (t : Int) + 1 ≠ 0 := by omega
    have e1 : ((pas many t : Nat) * ((many : Int) - (t : Int))).fdiv ((t : Int) + 1) = ((pas many (t + 1) : Nat) : Int) := by
      rw [Int.fdiv_eq_ediv_of_nonneg _ (by omega), pas_div, show (many : Int) - (t : Int) = ((many - t : Nat) : Int) by omega]
      norm_cast
    exact ⟨[some (.int many), some (.int few), some (.int (pas many t : Nat)), some (.int t)], [some (.int many), some (.int few), some (.int (pas many (t + 1) : Nat)), some (.int t)], S', rfl, .inl (by
      simp [gPicksB, asg_nm, s1, s2, s3, ne, e1]), rfl, _, rfl⟩)
  rw [rng_len] at e
  exact ⟨q', by simpa using e⟩
theorem picks_ok {P : List Def} {F n i : Nat} (hi : P[i]? = some gPicks) {many few : Nat} (hm : many ≤ 2000) (S : Store) : LH.call P F (n + 1) i [.int many, .int few] S = .ok (.int (pas many few : Nat)) S := by
  refine call_ret hi rfl ?_ (.inr rfl)
  have h0 : ¬ ((few : Int) < 0) := by omega
  by_cases hf : few ≤ many
  · have h1 : ¬ ((many : Int) < (few : Int)) := by omega
    obtain ⟨q', e⟩ := picks_loop (cc := LH.call P F n) (F := F) hm hf S none
    have ok : okR (few : Int) = true := decide_eq_true ⟨by omega, by omega⟩
    simp [gPicks, startE, asg_nm, h0, h1, ok, e]
  · have h1 : (many : Int) < (few : Int) := by omega
    have h2 : few > many := by omega
    rw [pas_gt many few h2]
    simp [gPicks, startE, h0, h2]
/-! ## powers -/
def gPowB : B := (.cons (.asg (.nm 2) (.bin false .mul (.loc 2) (.loc 0)))
    .nil)
def gPow : Def := ⟨4, 2, false,
    (.cons (.asg (.nm 2) (.cst (.int 1)))
    (.cons (.for_ (.nm 3) (.rng1 (.loc 1)) gPowB)
    (.cons (.ret (.loc 2))
    .nil)))⟩
theorem pow_ok {P : List Def} {F n i : Nat} (hi : P[i]? = some gPow) {x : Int} {w m : Nat} (hx : x.natAbs < 2 ^ w) (hw : w * (m + 1) ≤ 8000) (hm : m ≤ 8000) (S : Store) : LH.call P F (n + 1) i [.int x, .int m] S = .ok (.int (x ^ m)) S := by
  refine call_ret hi rfl ?_ (.inr rfl)
  obtain ⟨ρ', S', e, rfl, q', rfl⟩ := for_fix0 (g := .nm 3) (ys := rngD 0 m) (body := semB (LH.call P F n) F gPowB) (fun t ρ S' => S' = S ∧ ∃ q', ρ = [some (.int x), some (.int m), some (.int (x ^ t)), q']) (rngD 0 m) [some (.int x), some (.int m), some (.int 1), none] S ⟨rfl, none, by simp⟩ (by
    intro t y ρ S' hx' hI
    obtain ⟨rfl, q', rfl⟩ := hI
    obtain ⟨rfl, ht⟩ := rng_at hx'
    have b1 : (x ^ t).natAbs < 2 ^ 8001 := by
      rw [Int.natAbs_pow]
      have h1 : x.natAbs ^ t ≤ (2 ^ w) ^ t := Nat.pow_le_pow_left (by omega) t
      rw [← Nat.pow_mul] at h1
      have h2 : w * t ≤ w * (m + 1) := Nat.mul_le_mul_left _ (by omega)
      have h3 : 2 ^ (w * t) ≤ 2 ^ 8000 := Nat.pow_le_pow_right (by decide) (by omega)
      have h4 : (2 : Nat) ^ 8000 < 2 ^ 8001 := Nat.pow_lt_pow_right (by decide) (by decide)
      omega
    have b2 : x.natAbs < 2 ^ 8001 := by
      have h2 : w ≤ w * (m + 1) := Nat.le_mul_of_pos_right _ (by omega)
      have h3 : 2 ^ w ≤ 2 ^ 8000 := Nat.pow_le_pow_right (by decide) (by omega)
      have h4 : (2 : Nat) ^ 8000 < 2 ^ 8001 := Nat.pow_lt_pow_right (by decide) (by decide)
      omega
    have s1 : smallI (x ^ t) = true := small_pow b1 (by decide)
    have s2 : smallI x = true := small_pow b2 (by decide)
    have e1 : x ^ t * x = x ^ (t + 1) := (Int.pow_succ x t).symm
    generalize x ^ t = y at s1 e1 ⊢
    exact ⟨[some (.int x), some (.int m), some (.int y), some (.int t)], [some (.int x), some (.int m), some (.int (x ^ (t + 1))), some (.int t)], S', rfl, .inl (by
      simp [gPowB, asg_nm, s1, s2, e1]), rfl, _, rfl⟩)
  rw [rng_len] at e
  have ok : okR (m : Int) = true := decide_eq_true ⟨by omega, by omega⟩
  rw [Int.toNat_natCast] at e
  generalize x ^ m = z at e ⊢
  simp [gPow, startE, asg_nm, ok, e]
end LH

namespace LH
open PySem hiding call truthy
open PySem.W L2 PySem.Spec PyProof.Rows
/-! ## so many hits in so many turns -/
def Rw (p q : Int) : Nat → Nat → Int
  | 0, 0 => 1
  | 0, _ + 1 => 0
  | m + 1, 0 => q * Rw p q m 0
  | m + 1, j + 1 => p * Rw p q m j + q * Rw p q m (j + 1)
def Ww (p q : Int) : Nat → Nat → Int
  | 0, 0 => 1
  | 0, _ + 1 => 0
  | m + 1, 0 => (p + q) * Ww p q m 0
  | m + 1, t + 1 => p * Ww p q m t + q * Ww p q m (t + 1)
theorem Ww_step (p q : Int) : ∀ m t : Nat, Ww p q m t = Rw p q m t + Ww p q m (t + 1)
  | 0, 0 => by simp [Ww, Rw]
  | 0, t + 1 => by simp [Ww, Rw]
  | m + 1, 0 => by
    have h := Ww_step p q m 0
    simp only [Ww, Rw]
    grind
  | m + 1, t + 1 => by
    have h1 := Ww_step p q m t
    have h2 := Ww_step p q m (t + 1)
    simp only [Ww, Rw]
    grind
theorem Ww_gt (p q : Int) : ∀ m t : Nat, m < t → Ww p q m t = 0
  | 0, t + 1, _ => rfl
  | m + 1, t + 1, h => by simp [Ww, Ww_gt p q m t (by omega), Ww_gt p q m (t + 1) (by omega)]
theorem Rw_gt (p q : Int) : ∀ m t : Nat, m < t → Rw p q m t = 0
  | 0, t + 1, _ => rfl
  | m + 1, t + 1, h => by simp [Rw, Rw_gt p q m t (by omega), Rw_gt p q m (t + 1) (by omega)]
theorem Rw_eq (p q : Int) : ∀ m j : Nat, j ≤ m → Rw p q m j = (pas m j : Nat) * p ^ j * q ^ (m - j)
  | 0, 0, _ => by simp [Rw, pas]
  | m + 1, 0, _ => by
    have := Rw_eq p q m 0 (by omega)
    simp only [Rw, this, pas_zero, Nat.sub_zero, Int.pow_succ, Int.pow_zero]
    grind
  | m + 1, j + 1, h => by
    have h1 := Rw_eq p q m j (by omega)
    have e3 : pas (m + 1) (j + 1) = pas m j + pas m (j + 1) := rfl
    by_cases hj : j + 1 ≤ m
    · have h2 := Rw_eq p q m (j + 1) hj
      simp only [Rw, h1, h2, e3]
      obtain ⟨d, rfl⟩ : ∃ d, m = j + 1 + d := ⟨m - (j + 1), by omega⟩
      rw [show j + 1 + d - j = d + 1 by omega, show j + 1 + d - (j + 1) = d by omega, show j + 1 + d + 1 - (j + 1) = d + 1 by omega]
      simp only [Int.pow_succ, Int.natCast_add]
      grind
    · have hj : j = m := by omega
      subst hj
      have h2 := Rw_gt p q j (j + 1) (by omega)
      have h3 := pas_gt j (j + 1) (by omega)
      simp only [Rw, h1, h2, e3, h3, Nat.sub_self, Int.pow_succ, Int.pow_zero]
      grind
theorem Ww_zero (p q : Int) : ∀ m : Nat, Ww p q m 0 = (p + q) ^ m
  | 0 => by simp [Ww]
  | m + 1 => by simp only [Ww, Ww_zero p q m, Int.pow_succ]; grind
theorem Ww_scale (c p q : Int) : ∀ m t : Nat, Ww (c * p) (c * q) m t = c ^ m * Ww p q m t
  | 0, 0 => by simp [Ww]
  | 0, t + 1 => by simp [Ww]
  | m + 1, 0 => by simp only [Ww, Ww_scale c p q m 0, Int.pow_succ]; grind
  | m + 1, t + 1 => by simp only [Ww, Ww_scale c p q m t, Ww_scale c p q m (t + 1), Int.pow_succ]; grind
theorem Rw_nonneg {p q : Int} (hp : 0 ≤ p) (hq : 0 ≤ q) : ∀ m t : Nat, 0 ≤ Rw p q m t
  | 0, 0 => by simp [Rw]
  | 0, t + 1 => by simp [Rw]
  | m + 1, 0 => by simp only [Rw]; exact Int.mul_nonneg hq (Rw_nonneg hp hq m 0)
  | m + 1, t + 1 => by
    have h1 := Int.mul_nonneg hp (Rw_nonneg hp hq m t)
    have h2 := Int.mul_nonneg hq (Rw_nonneg hp hq m (t + 1))
    simp only [Rw]; omega
theorem Ww_mono {p q : Int} (hp : 0 ≤ p) (hq : 0 ≤ q) (m t : Nat) : Ww p q m (t + 1) ≤ Ww p q m t := by
  have := Rw_nonneg hp hq m t
  rw [Ww_step p q m t]; omega
theorem Ww_nonneg {p q : Int} (hp : 0 ≤ p) (hq : 0 ≤ q) : ∀ m t : Nat, 0 ≤ Ww p q m t
  | 0, 0 => by simp [Ww]
  | 0, t + 1 => by simp [Ww]
  | m + 1, 0 => by simp only [Ww]; exact Int.mul_nonneg (by omega) (Ww_nonneg hp hq m 0)
  | m + 1, t + 1 => by
    have h1 := Int.mul_nonneg hp (Ww_nonneg hp hq m t)
    have h2 := Int.mul_nonneg hq (Ww_nonneg hp hq m (t + 1))
    simp only [Ww]; omega
theorem Ww_le {p q : Int} (hp : 0 ≤ p) (hq : 0 ≤ q) (m : Nat) : ∀ t : Nat, Ww p q m t ≤ (p + q) ^ m
  | 0 => by rw [Ww_zero]; exact Int.le_refl _
  | t + 1 => Int.le_trans (Ww_mono hp hq m t) (Ww_le hp hq m t)
theorem Rw_le {p q : Int} (hp : 0 ≤ p) (hq : 0 ≤ q) (m t : Nat) : Rw p q m t ≤ (p + q) ^ m := by
  have h1 := Ww_le hp hq m t
  have h2 := Ww_nonneg hp hq m (t + 1)
  rw [Ww_step] at h1
  omega
/-- a power's bound -/
theorem pow_lt {x : Int} {w m k : Nat} (h0 : 0 ≤ x) (hx : x < 2 ^ w) (hk : w * m < k) : (x ^ m).natAbs < 2 ^ k := by
  rw [Int.natAbs_pow]
  have h : x.natAbs < 2 ^ w := by
    have : ((x.natAbs : Nat) : Int) < ((2 ^ w : Nat) : Int) := by push_cast; omega
    omega
  have h1 : x.natAbs ^ m ≤ (2 ^ w) ^ m := Nat.pow_le_pow_left (by omega) m
  rw [← Nat.pow_mul] at h1
  exact Nat.lt_of_le_of_lt h1 (Nat.pow_lt_pow_right (by decide) hk)
end LH

namespace LH
open PySem hiding call truthy
open PySem.W L2 PySem.Spec PyProof.Rows
/-! ## dicts of numbers -/
def kI (j : Nat) : KY := .k (.inl (j : Int))
theorem kI_inj {i j : Nat} (h : kI i = kI j) : i = j := by
  unfold kI at h
  injection h with h
  injection h with h
  omega
def encD (ks : List Nat) (f : Nat → D) : List (KY × D) := ks.map fun j => (kI j, f j)
theorem encD_len (ks : List Nat) (f : Nat → D) : (encD ks f).length = ks.length := by unfold encD; simp
theorem assoc_enc (ks : List Nat) (f : Nat → D) (j : Nat) : assoc (kI j) (encD ks f) = if j ∈ ks then some (f j) else none := by
  unfold assoc encD
  induction ks with
  | nil => rfl
  | cons i ks ih =>
    rw [List.map_cons, List.find?_cons]
    by_cases h : i = j
    · subst h; simp
    · have h1 : decide (kI i = kI j) = false := decide_eq_false fun e => h (kI_inj e)
      simp only [h1]
      rw [ih]
      have : (j ∈ i :: ks) ↔ j ∈ ks := by simp [Ne.symm h, eq_comm]
      simp only [this]
theorem put_old {ks : List Nat} {f : Nat → D} {j : Nat} {v : D} (h : j ∈ ks) : putA (kI j) v (encD ks f) = encD ks fun x => if x = j then v else f x := by
  unfold putA encD
  rw [if_pos]
  · rw [List.map_map]
    refine List.map_congr_left fun x _ => ?_
    show (if kI x = kI j then (kI x, v) else (kI x, f x)) = (kI x, if x = j then v else f x)
    by_cases hx : x = j
    · subst hx; simp
    · rw [if_neg (fun e => hx (kI_inj e)), if_neg hx]
  · rw [List.any_eq_true]
    exact ⟨(kI j, f j), List.mem_map.mpr ⟨j, h, rfl⟩, by simp⟩
theorem put_new {ks : List Nat} {f : Nat → D} {j : Nat} {v : D} (h : j ∉ ks) : putA (kI j) v (encD ks f) = encD (ks ++ [j]) fun x => if x = j then v else f x := by
  unfold putA encD
  rw [if_neg]
  · rw [List.map_append, List.map_cons, List.map_nil]
    congr 1
    · refine List.map_congr_left fun x hx => ?_
      have : x ≠ j := fun e => h (e ▸ hx)
      simp [this]
    · simp
  · rw [List.any_eq_true]
    rintro ⟨p, hp, e⟩
    obtain ⟨x, hx, rfl⟩ := List.mem_map.mp hp
    exact h ((kI_inj (of_decide_eq_true e)) ▸ hx)
theorem enc_congr {ks : List Nat} {f g : Nat → D} (h : ∀ j ∈ ks, f j = g j) : encD ks f = encD ks g := by
  unfold encD
  exact List.map_congr_left fun x hx => by rw [h x hx]
theorem keysI_enc (ks : List Nat) (f : Nat → D) : keysI (encD ks f) = some (ks.map fun (j : Nat) => (j : Int)) := by
  unfold encD
  induction ks with
  | nil => rfl
  | cons i ks ih => rw [List.map_cons]; simp only [kI, keysI]; rw [show (ks.map fun (j : Nat) => (KY.k (Sum.inl (j : Int)), f j)) = ks.map fun j => (kI j, f j) from rfl, ih]; rfl
theorem sort_range {ks : List Nat} {n : Nat} (h : ks.Perm (List.range n)) : sortI (ks.map fun (j : Nat) => (j : Int)) = (List.range n).map fun (j : Nat) => (j : Int) := by
  refine (LH.sorted_eqI ?_ ?_).symm
  · exact (h.map _).symm
  · rw [List.pairwise_map]
    exact List.pairwise_lt_range.imp fun h => by omega
theorem dct_app {S T : Store} {n : Nat} {t : Bool} {kvs : List (KY × D)} (h : S[n]? = some (.dct t kvs)) : (S ++ T)[n]? = some (.dct t kvs) := by
  rw [List.getElem?_append_left (List.getElem?_eq_some_iff.mp h).1]; exact h
/-- a value is a dict of these -/
structure DictAt (S : Store) (d : D) (ks : List Nat) (f : Nat → D) : Prop where
  hd : dctD S d = some (false, encD ks f)
  hl : lstD S d = none
theorem DictAt.frz {S : Store} (ks : List Nat) (f : Nat → D) : DictAt S (.dct false (ks.map kI) (ks.map f)) ks f where
  hd := by
    show some (false, (ks.map kI).zip (ks.map f)) = _
    congr 2
    unfold encD
    rw [List.zip_map', List.map_congr_left]
    intro x _
    rfl
  hl := rfl
theorem DictAt.ref {S : Store} {n : Nat} {ks : List Nat} {f : Nat → D} (h : S[n]? = some (.dct false (encD ks f))) : DictAt S (.ref n) ks f where
  hd := by simp [dctD, h]
  hl := by simp [lstD, h]
theorem DictAt.lk {S : Store} {n : Nat} {ks : List Nat} {f : Nat → D} (h : S[n]? = some (.lk false (encD ks f))) : DictAt S (.ref n) ks f where
  hd := by simp [dctD, h]
  hl := by simp [lstD, h]
theorem DictAt.app {S T : Store} {d : D} {ks : List Nat} {f : Nat → D} (h : DictAt S d ks f) : DictAt (S ++ T) d ks f := by
  obtain ⟨h1, h2⟩ := h
  cases d with
  | dct t kk vv => exact ⟨h1, h2⟩
  | ref n =>
    simp only [dctD] at h1
    split at h1
    · rename_i hs
      cases h1
      exact .ref (dct_app hs)
    · rename_i hs
      cases h1
      refine .lk ?_
      rw [List.getElem?_append_left (List.getElem?_eq_some_iff.mp hs).1]; exact hs
    · cases h1
  | _ => simp [dctD] at h1
section
variable {S : Store} {d : D} {ks : List Nat} {f : Nat → D}
theorem DictAt.get (h : DictAt S d ks f) (m : Bool) (j : Nat) (x : D) : meD m .get d [.int (j : Int), x] S = .ok (if j ∈ ks then f j else x) S := by
  have e : assoc (KY.k (Sum.inl (j : Int))) (encD ks f) = if j ∈ ks then some (f j) else none := assoc_enc ks f j
  simp only [meD, meGet, h.hd, keyD]
  rw [if_pos (by rfl), e]
  by_cases hj : j ∈ ks <;> simp [hj]
theorem DictAt.recv (h : DictAt S d ks f) : LH.recv .get S d = true := by simp [LH.recv, h.hd]
theorem DictAt.ix (h : DictAt S d ks f) {j : Nat} (hj : j ∈ ks) : ixD d (.int (j : Int)) S = some (f j) := by
  have e : assoc (KY.k (Sum.inl (j : Int))) (encD ks f) = if j ∈ ks then some (f j) else none := assoc_enc ks f j
  rw [if_pos hj] at e
  obtain ⟨h1, h2⟩ := h
  cases d with
  | dct t kk vv => simp only [ixD, h2, h1, keyD, e]; rfl
  | ref n => simp only [ixD, h2, h1, keyD, e]; rfl
  | _ => simp [dctD] at h1
theorem DictAt.sorted (h : DictAt S d ks f) {n : Nat} (hp : ks.Perm (List.range n)) (hn : n < 64) (m : Bool) : biD m .sorted [d] S = mkL m ((List.range n).map fun (j : Nat) => D.int (j : Int)) S := by
  have hl : (encD ks f).length = n := by rw [encD_len, hp.length_eq, List.length_range]
  simp only [biD, biSorted, h.hl, h.hd, Option.bind_none]
  rw [if_pos (by omega), keysI_enc]
  simp only
  rw [sort_range hp, List.map_map]
  rfl
end
theorem put_dct {S : Store} {j : Nat} {v : D} {kvs : List (KY × D)} (hl : kvs.length < LMAX) : putD (.ref S.length) (.int (j : Int)) v (S ++ [.dct false kvs]) = some (S ++ [.dct false (putA (kI j) v kvs)]) := by
  have h1 : (S ++ [Ob.dct false kvs])[S.length]? = some (.dct false kvs) := by rw [List.getElem?_append_right (Nat.le_refl _)]; simp
  simp only [putD, h1, keyD]
  rw [if_pos (by
    rw [Bool.and_eq_true]
    exact ⟨rfl, decide_eq_true hl⟩)]
  congr 1
  rw [List.set_append_right _ _ (Nat.le_refl _)]
  simp [kI]
/-- a frame's end: a value without refs -/
theorem fin_plain {S : Store} {b k : Nat} {v : D} (hp : v.plain k = true) (hc : ∀ i o, i < b → S[i]? = some o → Ob.cl b o = true) (hb : b ≤ S.length) : finD false b v S = .ok v (S.take b) := by
  unfold finD
  by_cases h : (false || S.length == b) = true
  · rw [if_pos h]
    have : S.length = b := by simpa using h
    rw [← this, List.take_length]
  · rw [if_neg h]
    have hf : flat S b 4 v = some v := by
      unfold flat
      exact plain_trav hp
    rw [hf]
    have h1 : v.cl b = true := plain_cl hp
    have h2 : (S.take b).all (Ob.cl b) = true := by
      rw [List.all_eq_true]
      intro o ho
      obtain ⟨i, hi⟩ := List.mem_iff_getElem?.mp ho
      have hib : i < b := by have := (List.getElem?_eq_some_iff.mp hi).1; rw [List.length_take] at this; omega
      rw [List.getElem?_take_of_lt hib] at hi
      exact hc i o hib hi
    simp only [h1, h2]
    rfl
/-- a dict is walked: it is locked -/
theorem walk_dict {S0 T : Store} {d : D} {ks : List Nat} {f : Nat → D} (h : DictAt (S0 ++ T) d ks f) (hd : ∀ n, d = .ref n → S0.length ≤ n) :
    ∃ T', walkD (S0 ++ T) d = .ok (.fix (ks.map fun (j : Nat) => D.int (j : Int))) (S0 ++ T') ∧ DictAt (S0 ++ T') d ks f := by
  have hk : ∀ kvs, kvs = encD ks f → (kvs.map fun p : KY × D => p.1.d) = ks.map fun (j : Nat) => D.int (j : Int) := by
    rintro _ rfl
    unfold encD
    rw [List.map_map]
    rfl
  obtain ⟨h1, h2⟩ := h
  cases d with
  | dct t kk vv =>
    simp only [dctD, Option.some.injEq, Prod.mk.injEq] at h1
    obtain ⟨rfl, h1⟩ := h1
    refine ⟨T, ?_, ⟨by simp [dctD, h1], rfl⟩⟩
    simp only [walkD, lockS]
    rw [hk _ h1]
  | ref n =>
    have hn := hd n rfl
    simp only [dctD] at h1
    split at h1
    · rename_i hs
      cases h1
      refine ⟨T.set (n - S0.length) (.lk false (encD ks f)), ?_, .lk ?_⟩
      · simp only [walkD, lockS, hs]
        rw [hk _ rfl, List.set_append_right _ _ hn]
      · rw [← List.set_append_right _ _ hn, List.getElem?_set_self (List.getElem?_eq_some_iff.mp hs).1]
    · rename_i hs
      cases h1
      refine ⟨T, ?_, .lk hs⟩
      simp only [walkD, lockS, hs]
      rw [hk _ rfl]
    · cases h1
  | _ => simp [dctD] at h1
end LH

namespace LH
open PySem hiding call truthy
open PySem.W L2 PySem.Spec PyProof.Rows
/-! ## repr answers, great numbers too -/
def KY.rb : KY → Bool
  | .k (.inl i) => decide (i.natAbs < 2 ^ 1900)
  | .k (.inr x) => x.cps.toList.all fun c => decide (c < 16 ^ 8)
  | .t _ => false
mutual
/-- small leaves, at most n deep -/
def D.rb : Nat → D → Bool
  | _, .non => true
  | _, .bl _ => true
  | _, .int i => decide (i.natAbs < 2 ^ 1900)
  | _, .str x => x.cps.toList.all fun c => decide (c < 16 ^ 8)
  | n + 1, .lst xs => D.rbL n xs
  | n + 1, .tup xs => D.rbL n xs
  | n + 1, .dct _ ks xs => ks.all KY.rb && D.rbL n xs
  | _, _ => false
def D.rbL : Nat → List D → Bool
  | _, [] => true
  | n, x :: xs => D.rb n x && D.rbL n xs
end
theorem rbL_iff {n : Nat} : ∀ {xs : List D}, D.rbL n xs = true ↔ ∀ x ∈ xs, x.rb n = true
  | [] => by simp [D.rbL]
  | x :: xs => by simp [D.rbL, rbL_iff (xs := xs)]
theorem intB_show {i : Int} (h : i.natAbs < 2 ^ 1900) : (PyData.int i).showable = true ∧ (PyData.int i).leavesShort 1902 = true := by
  have hl : i.natAbs.log2 < 1901 := by
    by_cases h0 : i.natAbs = 0
    · rw [h0]; decide
    · have := (Nat.log2_lt h0).mpr h
      omega
  refine ⟨decide_eq_true (by omega), decide_eq_true ?_⟩
  have e := int_text_length_le (a := i) (k := 1901) (by decide) hl
  rw [PyData.shown_int, PySem.ofString_length]
  exact e
mutual
theorem rb_all {g : Nat → Option D} : ∀ {n : Nat} {d : D}, d.rb n = true → D.trav g d = some d ∧ d.plainR n = true ∧ d.py.showable = true ∧ d.py.leavesShort 1902 = true ∧ d.py.bulk ≤ d.sz
  | n, .non, _ => by cases n <;> exact ⟨by simp [D.trav], rfl, rfl, rfl, Nat.le_refl _⟩
  | n, .bl _, _ => by cases n <;> exact ⟨by simp [D.trav], rfl, rfl, rfl, Nat.le_refl _⟩
  | n, .int i, h => by
    have h : i.natAbs < 2 ^ 1900 := by cases n <;> simpa [D.rb] using h
    have q := intB_show h
    cases n <;> exact ⟨by simp [D.trav], rfl, q.1, q.2, Nat.le_refl _⟩
  | n, .str x, h => by
    have h : (x.cps.toList.all fun c => decide (c < 16 ^ 8)) = true := by cases n <;> simpa [D.rb] using h
    cases n <;> exact ⟨by simp [D.trav], rfl, rfl, h, Nat.le_refl _⟩
  | 0, .lst _, h => by simp [D.rb] at h
  | 0, .tup _, h => by simp [D.rb] at h
  | 0, .dct _ _ _, h => by simp [D.rb] at h
  | n + 1, .lst xs, h => by
    obtain ⟨h1, h2, h3, h4, h5⟩ := rb_allL (g := g) (n := n) (xs := xs) (by simpa [D.rb] using h)
    exact ⟨by simp [D.trav, h1], by simpa [D.plainR] using h2, h3, h4, h5⟩
  | n + 1, .tup xs, h => by
    obtain ⟨h1, h2, h3, h4, h5⟩ := rb_allL (g := g) (n := n) (xs := xs) (by simpa [D.rb] using h)
    exact ⟨by simp [D.trav, h1], by simpa [D.plainR] using h2, h3, h4, h5⟩
  | n + 1, .dct t ks xs, h => by
    have h : ks.all KY.rb = true ∧ D.rbL n xs = true := by simpa [D.rb] using h
    obtain ⟨h1, h2, h3, h4, h5⟩ := rb_allL (g := g) (n := n) (xs := xs) h.2
    refine ⟨by simp [D.trav, h1], by simpa [D.plainR] using h2, ?_⟩
    have key : ∀ (ks : List KY) (ys : List PyData) , ks.all KY.rb = true → PyData.showableAll ys = true → PyData.leavesShortAll 1902 ys = true →
        PyData.showableKv ((ks.map KY.py).zip ys) = true ∧ PyData.leavesShortKv 1902 ((ks.map KY.py).zip ys) = true ∧ PyData.bulkKv ((ks.map KY.py).zip ys) ≤ (ks.map KY.sz).sum + PyData.bulkAll ys + ys.length := by
      intro ks
      induction ks with
      | nil => intro ys _ _ _; exact ⟨rfl, rfl, Nat.zero_le _⟩
      | cons k ks ih =>
        intro ys hk a b
        cases ys with
        | nil => exact ⟨rfl, rfl, Nat.zero_le _⟩
        | cons y ys =>
          rw [List.all_cons, Bool.and_eq_true] at hk
          simp only [PyData.showableAll, PyData.leavesShortAll, Bool.and_eq_true] at a b
          obtain ⟨i1, i2, i3⟩ := ih ys hk.2 a.2 b.2
          have kk : (KY.py k).showable = true ∧ (KY.py k).leavesShort 1902 = true ∧ (KY.py k).bulk ≤ KY.sz k := by
            cases k with
            | t _ => cases hk.1
            | k z =>
              cases z with
              | inl i =>
                have q := intB_show (i := i) (by simpa [KY.rb] using hk.1)
                exact ⟨q.1, q.2, Nat.le_refl _⟩
              | inr x => exact ⟨rfl, hk.1, Nat.le_refl _⟩
          simp only [List.map_cons, List.zip_cons_cons, PyData.showableKv, PyData.leavesShortKv, PyData.bulkKv, PyData.bulkAll, Bool.and_eq_true, List.sum_cons, List.length_cons]
          exact ⟨⟨⟨kk.1, a.1⟩, i1⟩, ⟨⟨kk.2.1, b.1⟩, i2⟩, by omega⟩
    obtain ⟨q1, q2, q3⟩ := key ks (D.pyL xs) h.1 h3 h4
    have hl := pyL_len xs
    refine ⟨q1, q2, Nat.le_trans q3 ?_⟩
    simp only [D.sz]
    omega
  | n, .ref _, h => by cases n <;> simp [D.rb] at h
  | n, .fn _, h => by cases n <;> simp [D.rb] at h
  | n, .exc _ _, h => by cases n <;> simp [D.rb] at h
  | n, .scr _, h => by cases n <;> simp [D.rb] at h
theorem rb_allL {g : Nat → Option D} : ∀ {n : Nat} {xs : List D}, D.rbL n xs = true → D.travL g xs = some xs ∧ D.plainRL n xs = true ∧ PyData.showableAll (D.pyL xs) = true ∧ PyData.leavesShortAll 1902 (D.pyL xs) = true ∧ PyData.bulkAll (D.pyL xs) ≤ D.szL xs
  | n, [], _ => ⟨by simp [D.travL], by simp [D.plainRL], rfl, rfl, Nat.le_refl _⟩
  | n, x :: xs, h => by
    have h : x.rb n = true ∧ D.rbL n xs = true := by simpa [D.rbL] using h
    obtain ⟨a1, a2, a3, a4, a5⟩ := rb_all (g := g) h.1
    obtain ⟨b1, b2, b3, b4, b5⟩ := rb_allL (g := g) h.2
    refine ⟨by simp [D.travL, a1, b1], by simp [D.plainRL, a2, b2], by simp [D.pyL, PyData.showableAll, a3, b3], by simp [D.pyL, PyData.leavesShortAll, a4, b4], ?_⟩
    simp only [D.pyL, PyData.bulkAll, D.szL]
    omega
end
theorem reprB_ok {d : D} {S : Store} {m : Bool} (h : d.rb 20 = true) (hs : d.sz ≤ 8000) : biD m .repr [d] S = .ok (.str (PyData.shown d.py)) S := by
  have hrd : rd S d = some d := by
    unfold rd flat
    exact (rb_all h).1
  obtain ⟨_, h2, h3, h4, h5⟩ := rb_all (g := fun _ => none) h
  have hl := PyData.shown_le_bulk 1902 (by decide) d.py h4
  have hl2 : (PyData.shown d.py).length ≤ LMAX := by unfold LMAX; omega
  show biRepr [d] S = _
  unfold biRepr
  have h2' : d.plainR DEEP = true := h2
  simp only [hrd, h2', h3, decide_eq_true hl2]
  rfl
end LH

namespace LH
/-! ## ways to choose at any whole number; sums; Vandermonde -/
theorem pas_self : ∀ n : Nat, pas n n = 1
  | 0 => rfl
  | n + 1 => by show pas n n + pas n (n + 1) = 1; rw [pas_self n, pas_gt n (n + 1) (by omega)]
theorem pas_sym : ∀ n k : Nat, k ≤ n → pas n (n - k) = pas n k
  | n, 0, _ => by rw [Nat.sub_zero, pas_self, pas_zero]
  | n + 1, k + 1, h => by
    by_cases e : k = n
    · subst e; rw [Nat.sub_self, pas_zero, pas_self]
    · have h1 : n + 1 - (k + 1) = (n - (k + 1)) + 1 := by omega
      rw [h1]
      show pas n (n - (k + 1)) + pas n (n - (k + 1) + 1) = pas n k + pas n (k + 1)
      rw [pas_sym n (k + 1) (by omega), show n - (k + 1) + 1 = n - k by omega, pas_sym n k (by omega)]
      omega
/-- ways to choose k of n; none where k does not fit -/
def ch (n k : Int) : Int := if k < 0 ∨ n < k then 0 else (pas n.toNat k.toNat : Nat)
theorem ch_nat (n k : Nat) : ch n k = (pas n k : Nat) := by
  unfold ch
  split
  · rw [pas_gt n k (by omega)]; rfl
  · simp
theorem ch_neg {n k : Int} (h : k < 0) : ch n k = 0 := if_pos (.inl h)
theorem ch_gt {n k : Int} (h : n < k) : ch n k = 0 := if_pos (.inr h)
theorem ch_nonneg (n k : Int) : 0 ≤ ch n k := by unfold ch; split <;> omega
theorem ch_pos {n k : Int} (h0 : 0 ≤ k) (h : k ≤ n) : 0 < ch n k := by
  unfold ch
  rw [if_neg (by omega)]
  have := pas_pos n.toNat k.toNat (by omega)
  omega
theorem ch_le {n : Int} {m : Nat} (h : n ≤ m) (k : Int) : ch n k ≤ 2 ^ m := by
  unfold ch
  split
  · exact Int.pow_nonneg (by decide)
  · have h1 := pas_le n.toNat k.toNat
    have h2 : 2 ^ n.toNat ≤ 2 ^ m := Nat.pow_le_pow_right (by decide) (by omega)
    have : pas n.toNat k.toNat ≤ 2 ^ m := by omega
    exact_mod_cast this
theorem ch_zero {n : Int} (h : 0 ≤ n) : ch n 0 = 1 := by
  unfold ch
  rw [if_neg (by omega)]
  show ((pas n.toNat 0 : Nat) : Int) = 1
  rw [pas_zero]; rfl
theorem ch_succ {n : Int} (h : 0 ≤ n) (k : Int) : ch (n + 1) k = ch n k + ch n (k - 1) := by
  by_cases h0 : k < 0
  · rw [ch_neg h0, ch_neg h0, ch_neg (by omega)]; rfl
  · by_cases h1 : k = 0
    · subst h1
      rw [ch_zero (by omega), ch_zero h, ch_neg (by omega)]; rfl
    · obtain ⟨m, rfl⟩ : ∃ m : Nat, n = m := ⟨n.toNat, by omega⟩
      obtain ⟨j, rfl⟩ : ∃ j : Nat, k = ((j + 1 : Nat) : Int) := ⟨(k - 1).toNat, by omega⟩
      have e1 : ((m : Int) + 1) = ((m + 1 : Nat) : Int) := by omega
      have e2 : (((j + 1 : Nat) : Int) - 1) = ((j : Nat) : Int) := by omega
      rw [e1, e2, ch_nat, ch_nat, ch_nat]
      show ((pas m j + pas m (j + 1) : Nat) : Int) = _
      omega
/-- sums below a number -/
def sm : Nat → (Nat → Int) → Int
  | 0, _ => 0
  | n + 1, f => sm n f + f n
theorem sm_congr {f g : Nat → Int} : ∀ {n : Nat}, (∀ i, i < n → f i = g i) → sm n f = sm n g
  | 0, _ => rfl
  | n + 1, h => by
    unfold sm
    rw [sm_congr fun i hi => h i (by omega), h n (by omega)]
theorem sm_zero (n : Nat) : sm n (fun _ => 0) = 0 := by
  induction n with
  | zero => rfl
  | succ n ih => unfold sm; rw [ih]; rfl
theorem sm_add (f g : Nat → Int) : ∀ n : Nat, sm n (fun i => f i + g i) = sm n f + sm n g
  | 0 => rfl
  | n + 1 => by show sm n (fun i => f i + g i) + (f n + g n) = (sm n f + f n) + (sm n g + g n); rw [sm_add f g n]; omega
theorem sm_mul (c : Int) (f : Nat → Int) : ∀ n : Nat, sm n (fun i => c * f i) = c * sm n f
  | 0 => by simp [sm]
  | n + 1 => by unfold sm; rw [sm_mul c f n, Int.mul_add]
theorem sm_ext {f : Nat → Int} {n m : Nat} (h : n ≤ m) (hz : ∀ i, n ≤ i → i < m → f i = 0) : sm m f = sm n f := by
  induction m with
  | zero => rw [show n = 0 by omega]
  | succ m ih =>
    by_cases e : n = m + 1
    · rw [e]
    · show sm m f + f m = sm n f
      rw [ih (by omega) fun i h1 h2 => hz i h1 (by omega), hz m (by omega) (by omega)]
      omega
theorem sm_shift (f : Nat → Int) : ∀ n : Nat, sm (n + 1) f = f 0 + sm n fun i => f (i + 1)
  | 0 => by simp [sm]
  | n + 1 => by
    show sm (n + 1) f + f (n + 1) = f 0 + (sm n (fun i => f (i + 1)) + f (n + 1))
    rw [sm_shift f n]; omega
theorem sm_swap (f : Nat → Nat → Int) (n m : Nat) : sm n (fun i => sm m (f i)) = sm m fun j => sm n fun i => f i j := by
  induction n with
  | zero => show 0 = sm m fun _ => 0; rw [sm_zero]
  | succ n ih =>
    show sm n (fun i => sm m (f i)) + sm m (f n) = sm m fun j => sm n (fun i => f i j) + f n j
    rw [sm_add, ih]
theorem sm_nonneg {f : Nat → Int} {n : Nat} (h : ∀ i, i < n → 0 ≤ f i) : 0 ≤ sm n f := by
  induction n with
  | zero => exact Int.le_refl _
  | succ n ih =>
    unfold sm
    have := ih fun i hi => h i (by omega)
    have := h n (by omega)
    omega
theorem sm_le {f g : Nat → Int} {n : Nat} (h : ∀ i, i < n → f i ≤ g i) : sm n f ≤ sm n g := by
  induction n with
  | zero => exact Int.le_refl _
  | succ n ih =>
    unfold sm
    have := ih fun i hi => h i (by omega)
    have := h n (by omega)
    omega
/-- sums over steps down: what Vandermonde adds up -/
theorem vand (g : Int → Int) {m : Int} (hm : 0 ≤ m) (hgm : ∀ k, g k = ch m k) : ∀ (s : Nat) (d : Int), sm (s + 1) (fun r => ch s r * g (d - r)) = ch (s + m) d
  | 0, d => by
    show 0 + ch ((0 : Nat) : Int) ((0 : Nat) : Int) * g (d - ((0 : Nat) : Int)) = _
    rw [hgm, ch_nat]
    have h1 : d - ((0 : Nat) : Int) = d := by omega
    have h2 : ((0 : Nat) : Int) + m = m := by omega
    rw [h1, h2, pas_zero]
    omega
  | s + 1, d => by
    have h1 : sm (s + 1 + 1) (fun r => ch (s + 1 : Nat) r * g (d - r)) = sm (s + 2) (fun r => ch s r * g (d - r)) + sm (s + 2) (fun r => ch s ((r : Int) - 1) * g (d - r)) := by
      rw [← sm_add]
      refine sm_congr fun i _ => ?_
      have e : (((s + 1 : Nat) : Int)) = (s : Int) + 1 := by omega
      rw [e, ch_succ (by omega), Int.add_mul]
    have h2 : sm (s + 2) (fun r => ch s r * g (d - r)) = sm (s + 1) (fun r => ch s r * g (d - r)) := by
      refine sm_ext (by omega) fun i h3 h4 => ?_
      rw [ch_gt (by omega), Int.zero_mul]
    have h3 : sm (s + 2) (fun r => ch s ((r : Int) - 1) * g (d - r)) = sm (s + 1) (fun r => ch s r * g ((d - 1) - r)) := by
      rw [sm_shift]
      have : ch (s : Int) (((0 : Nat) : Int) - 1) = 0 := ch_neg (by omega)
      rw [this, Int.zero_mul, Int.zero_add]
      refine sm_congr fun i _ => ?_
      have e1 : ((i + 1 : Nat) : Int) - 1 = (i : Int) := by omega
      have e2 : d - ((i + 1 : Nat) : Int) = (d - 1) - (i : Int) := by omega
      rw [e1, e2]
    rw [h1, h2, h3, vand g hm hgm s d, vand g hm hgm s (d - 1)]
    have e : (((s + 1 : Nat) : Int)) + m = ((s : Int) + m) + 1 := by omega
    rw [e, ch_succ (by omega)]
theorem vander (s : Nat) {m : Int} (hm : 0 ≤ m) (d : Int) : sm (s + 1) (fun r => ch s r * ch m (d - r)) = ch (s + m) d := vand (ch m) hm (fun _ => rfl) s d
/-- as many of both choices as told -/
theorem pair_sum {s mine its : Nat} {rest : Int} (hr : 0 ≤ rest) (d first : Int) :
    sm (s + its + 1) (fun second => sm (s + 1) fun many => ch s many * ch mine (first - many) * ch its ((second : Int) - many) * ch rest (d - first - second + many)) = ch ((s : Int) + mine) first * ch (its + rest) (d - first) := by
  rw [sm_swap]
  have hin : ∀ many : Nat, many < s + 1 → sm (s + its + 1) (fun second => ch s many * ch mine (first - many) * ch its ((second : Int) - many) * ch rest (d - first - second + many)) = ch (its + rest) (d - first) * (ch s many * ch mine (first - many)) := by
    intro many hm
    have h1 : ∀ (N : Nat) (f : Nat → Int), (∀ i, i < many → f i = 0) → sm (many + N) f = sm N fun j => f (many + j) := by
      intro N f hf
      induction N with
      | zero =>
        show sm many f = 0
        have := sm_ext (f := f) (n := 0) (m := many) (by omega) fun i _ h => hf i h
        exact this
      | succ N ih => show sm (many + N) f + f (many + N) = _; rw [ih]; rfl
    obtain ⟨u, hu⟩ : ∃ u, s + its + 1 = many + (its + 1 + u) := ⟨s - many, by omega⟩
    rw [hu, h1 _ _ fun i hi => by
      have : ch (its : Int) ((i : Int) - many) = 0 := ch_neg (by omega)
      rw [this]; simp]
    rw [sm_ext (n := its + 1) (by omega) fun i h1 h2 => by
      have : ch (its : Int) (((many + i : Nat) : Int) - many) = 0 := ch_gt (by omega)
      rw [this]; simp]
    have e : ∀ j : Nat, ch s many * ch mine (first - many) * ch its (((many + j : Nat) : Int) - many) * ch rest (d - first - ((many + j : Nat) : Int) + many) = (ch s many * ch mine (first - many)) * (ch its j * ch rest ((d - first) - j)) := by
      intro j
      have e1 : ((many + j : Nat) : Int) - many = (j : Int) := by omega
      have e2 : d - first - ((many + j : Nat) : Int) + many = (d - first) - j := by omega
      rw [e1, e2, Int.mul_assoc]
    rw [sm_congr fun j _ => e j, sm_mul, vander its hr, Int.mul_comm]
  rw [sm_congr hin, sm_mul, vander s (by omega), Int.mul_comm]
end LH

namespace LH
open PySem hiding call truthy
open PySem.W L2 PySem.Spec PyProof.Rows
/-! ## lotteries, choices, draws and tickets, as the program judges them -/
def gIsWhole : Def := ⟨1, 1, false,
    (.cons (.ret (.and (.isi (.loc 0) [.int] true) (.not (.isi (.loc 0) [.bool] true))))
    .nil)⟩
def gIsCount (w : Nat) : Def := ⟨1, 1, false,
    (.cons (.ret (.and (.call w (.cons (.loc 0) .nil)) (.cmp .ge (.loc 0) (.cst (.int 0)))))
    .nil)⟩
def gCheck1 (c k : Nat) : Def := ⟨1, 1, false,
    (.cons (.ifs (.not (.call c (.cons (.loc 0) .nil))) (.cons (.raise k (.cons (.loc 0) .nil))
    .nil) .nil)
    .nil)⟩
def gCheck2 (c k : Nat) : Def := ⟨2, 2, false,
    (.cons (.ifs (.not (.call c (.cons (.loc 0) (.cons (.loc 1) .nil)))) (.cons (.raise k (.cons (.loc 1) .nil))
    .nil) .nil)
    .nil)⟩
def gIsLottery (w : Nat) : Def := ⟨1, 1, false,
    (.cons (.ifs (.or (.not (.isi (.loc 0) [.tuple] true)) (.or (.cmp .ne (.bi false .len (.cons (.loc 0) .nil)) (.cst (.int 3))) (.or (.not (.isi (.ix (.loc 0) (.cst (.int 0))) [.str] true)) (.cmp .ne (.ix (.loc 0) (.cst (.int 0))) (.cst (.str ⟨#[108, 111, 116, 116, 101, 114, 121]⟩)))))) (.cons (.ret (.cst (.bool false)))
    .nil) .nil)
    (.cons (.ret (.and (.call w (.cons (.ix (.loc 0) (.cst (.int 1))) .nil)) (.and (.call w (.cons (.ix (.loc 0) (.cst (.int 2))) .nil)) (.chain .le .le (.cst (.int 1)) (.ix (.loc 0) (.cst (.int 2))) (.ix (.loc 0) (.cst (.int 1)))))))
    .nil))⟩
def gAscE0 : E := (.loc 1)
def gAscQ0 : EL := (.cons (.cmp .ge (.ix (.loc 0) (.bin false .sub (.loc 1) (.cst (.int 1)))) (.ix (.loc 0) (.loc 1))) .nil)
def gAscends : Def := ⟨2, 1, false,
    (.cons (.ret (.cmp .eq (.lc false [((Str.ofString "at"), 1)] gAscE0 (.nm 1) (.rng2 (.cst (.int 1)) (.bi false .len (.cons (.loc 0) .nil))) gAscQ0) (.lst false .nil)))
    .nil)⟩
def gChoE0 (w : Nat) : E := (.and (.call w (.cons (.loc 2) .nil)) (.chain .le .le (.cst (.int 1)) (.loc 2) (.ix (.loc 0) (.cst (.int 1)))))
def gIsChoiceOf (w a : Nat) : Def := ⟨3, 2, false,
    (.cons (.ifs (.or (.not (.isi (.loc 1) [.list] true)) (.not (.bi false .all (.cons (.lc false [((Str.ofString "ball"), 2)] (gChoE0 w) (.nm 2) (.it (.loc 1)) .nil) .nil)))) (.cons (.ret (.cst (.bool false)))
    .nil) .nil)
    (.cons (.ret (.call a (.cons (.loc 1) .nil)))
    .nil))⟩
def gIsDrawOf (c : Nat) : Def := ⟨2, 2, false,
    (.cons (.ret (.and (.call c (.cons (.loc 0) (.cons (.loc 1) .nil))) (.cmp .eq (.bi false .len (.cons (.loc 1) .nil)) (.ix (.loc 0) (.cst (.int 2))))))
    .nil)⟩
def gIsTicketOf (c : Nat) : Def := ⟨2, 2, false,
    (.cons (.ret (.and (.call c (.cons (.loc 0) (.cons (.loc 1) .nil))) (.cmp .ne (.loc 1) (.lst false .nil))))
    .nil)⟩
theorem wholeG_ok {P : List Def} {w : Nat} (hw : P[w]? = some gIsWhole) (F n : Nat) (i : Int) (S : Store) : LH.call P F (n + 1) w [.int i] S = .ok (.bl true) S := by
  refine call_ret hw rfl ?_ (.inr rfl)
  simp [gIsWhole, startE, Ty.le, Ty.ix]
theorem countG_ok {P : List Def} {w c : Nat} (hw : P[w]? = some gIsWhole) (hc : P[c]? = some (gIsCount w)) (F n : Nat) {i : Int} (h : 0 ≤ i) (S : Store) : LH.call P F (n + 2) c [.int i] S = .ok (.bl true) S := by
  refine call_ret hc rfl ?_ (.inr rfl)
  have e := wholeG_ok hw F n i S
  simp [gIsCount, startE, e, h]
/-- what lets a count go -/
structure NumAt (P : List Def) (i n0 : Nat) : Prop where
  ok : ∀ (F n : Nat) (k : Int) (S : Store), n0 ≤ n → 0 ≤ k → LH.call P F n i [.int k] S = .ok .non S
/-- what lets a lottery go -/
structure LotAt (P : List Def) (i n0 : Nat) : Prop where
  ok : ∀ (F n : Nat) (b k : Int) (S : Store), n0 ≤ n → 1 ≤ k → k ≤ b → LH.call P F n i [lot b k] S = .ok .non S
theorem check1_ok {P : List Def} {kx c i : Nat} {d : D} {F n : Nat} {S : Store} (hi : P[i]? = some (gCheck1 c kx)) (h : LH.call P F n c [d] S = .ok (.bl true) S) : LH.call P F (n + 1) i [d] S = .ok .non S := by
  refine call_nx (ρ := [some d]) hi rfl ?_ rfl
  simp [gCheck1, startE, h]
theorem check2_ok {P : List Def} {kx c i : Nat} {d e : D} {F n : Nat} {S : Store} (hi : P[i]? = some (gCheck2 c kx)) (h : LH.call P F n c [d, e] S = .ok (.bl true) S) : LH.call P F (n + 1) i [d, e] S = .ok .non S := by
  refine call_nx (ρ := [some d, some e]) hi rfl ?_ rfl
  simp [gCheck2, startE, h]
theorem num_at {P : List Def} {kx w c i : Nat} (hw : P[w]? = some gIsWhole) (hc : P[c]? = some (gIsCount w)) (hi : P[i]? = some (gCheck1 c kx)) : NumAt P i 3 := ⟨fun F n k S hn h => by
  obtain ⟨n, rfl⟩ : ∃ m, n = m + 3 := ⟨n - 3, by omega⟩
  exact check1_ok hi (countG_ok hw hc F n h S)⟩
theorem lotG_ok {P : List Def} {w l : Nat} (hw : P[w]? = some gIsWhole) (hl : P[l]? = some (gIsLottery w)) (F n : Nat) {b k : Int} (h1 : 1 ≤ k) (h2 : k ≤ b) (S : Store) : LH.call P F (n + 2) l [lot b k] S = .ok (.bl true) S := by
  have e1 := wholeG_ok hw F n b S
  have e2 := wholeG_ok hw F n k S
  refine call_ret hl rfl ?_ (.inr rfl)
  simp [gIsLottery, startE, lot, lotS, Ty.le, Ty.ix, e1, e2, h1, h2]
theorem lot_at {P : List Def} {kx w l i : Nat} (hw : P[w]? = some gIsWhole) (hl : P[l]? = some (gIsLottery w)) (hi : P[i]? = some (gCheck1 l kx)) : LotAt P i 3 := ⟨fun F n b k S hn h1 h2 => by
  obtain ⟨n, rfl⟩ : ∃ m, n = m + 3 := ⟨n - 3, by omega⟩
  exact check1_ok hi (lotG_ok hw hl F n h1 h2 S)⟩
/-- balls of a lottery, ascending -/
structure Cho (b : Int) (ns : List Int) : Prop where
  asc : ns.Pairwise (· < ·)
  ran : ∀ x ∈ ns, 1 ≤ x ∧ x ≤ b
theorem asc_at {ns : List Int} (h : ns.Pairwise (· < ·)) {i j : Nat} (hj : j < ns.length) (hij : i < j) : ns[i] < ns[j] := List.pairwise_iff_getElem.mp h i j (by omega) hj hij
theorem cho_len {b : Int} {ns : List Int} (h : Cho b ns) : (ns.length : Int) ≤ max 0 b := by
  have key : ∀ (ns : List Int) (lo : Int), ns.Pairwise (· < ·) → (∀ x ∈ ns, lo < x ∧ x ≤ b) → ns ≠ [] → lo + ns.length ≤ b := by
    intro ns
    induction ns with
    | nil => intro _ _ _ h; exact absurd rfl h
    | cons x r ih =>
      intro lo hp hr _
      have hx := hr x List.mem_cons_self
      rw [List.pairwise_cons] at hp
      by_cases hn : r = []
      · subst hn; simp; omega
      · have := ih x hp.2 (fun y hy => ⟨hp.1 y hy, (hr y (List.mem_cons_of_mem _ hy)).2⟩) hn
        rw [List.length_cons]
        omega
  by_cases hn : ns = []
  · subst hn; simp; omega
  · have := key ns 0 h.asc (fun x hx => ⟨by have := h.ran x hx; omega, (h.ran x hx).2⟩) hn
    omega
theorem ascG_ok {P : List Def} {a : Nat} (ha : P[a]? = some gAscends) (F n : Nat) {ns : List Int} (h : ns.Pairwise (· < ·)) (hn : ns.length ≤ 1000000) (S : Store) : LH.call P F (n + 1) a [.lst (ns.map .int)] S = .ok (.bl true) S := by
  refine call_ret ha rfl ?_ (.inr rfl)
  have hok : okR 1 = true ∧ okR (ns.length : Int) = true := ⟨rfl, decide_eq_true ⟨by omega, by omega⟩⟩
  have hl : lcRun (.fix (rngD 1 ns.length)) (lcBody (.nm 1) [1] (semC (LH.call P F n) gAscQ0) (semE (LH.call P F n) gAscE0) [some (.lst (ns.map .int)), none]) (rngD 1 ns.length) 0 S = .ok ((rngD 1 ns.length).filterMap fun _ => none) S := by
    refine lc_fix _ _ fun d hd => ?_
    unfold rngD at hd
    obtain ⟨i, hi, rfl⟩ := List.mem_map.mp hd
    rw [List.mem_range] at hi
    have i1 : i < ns.length := by omega
    have i2 : i + 1 < ns.length := by omega
    have a1 := at_int i1
    have a2 := at_int i2
    have e1 : (1 : Int) + (i : Int) - 1 = (i : Int) := by omega
    have e2 : (1 : Int) + (i : Int) = ((i + 1 : Nat) : Int) := by omega
    have hc : ¬ ns[i + 1] ≤ ns[i] := by have := asc_at h i2 (Nat.lt_succ_self i); omega
    simp only [lcBody, asgG, wipeE, List.set_cons_succ, List.set_cons_zero, gAscQ0, gAscE0, q_semC_cons, q_semC_nil, q_semE_cmp, q_semE_ix, q_semE_bin, q_semE_loc, q_semE_cst, k_int, k_none, k_bool, k_str, List.getD_cons_zero, List.getD_cons_succ, R.opt_some, R.bind_ok, o_subI, x_lst, e1, a1, e_ge, Option.map_some, t_bl]
    rw [e2, a2]
    simp [hc]
  have hnil : ((rngD 1 ns.length).filterMap fun _ => (none : Option D)) = [] := by
    rw [List.filterMap_eq_nil_iff]; exact fun _ _ => rfl
  rw [hnil] at hl
  have hmk := mkL_f S [] (by simp)
  have heq := (ne_nilD (S := S) (xs := []) rfl).2
  simp [gAscends, startE, hok, hl, hmk, heq]
theorem all_mapG (xs : List D) (f : D → Bool) (S : Store) : biD false .all [.lst (xs.map fun x => .bl (f x))] S = .ok (.bl (xs.all f)) S := by
  show (match (lstD S (.lst (xs.map fun x => D.bl (f x)))).bind blsD with
    | some bs => R.ok (D.bl (bs.all id)) S
    | _ => .no) = _
  rw [l_lst, Option.bind_some, blsD_mapC]
  simp [List.all_map]
theorem choG_ok {P : List Def} {w a c : Nat} (hw : P[w]? = some gIsWhole) (ha : P[a]? = some gAscends) (hc : P[c]? = some (gIsChoiceOf w a)) (F n : Nat) {b k : Int} {ns : List Int} (h : Cho b ns) (hn : ns.length ≤ 1000000) (S : Store) : LH.call P F (n + 2) c [lot b k, .lst (ns.map .int)] S = .ok (.bl true) S := by
  refine call_ret hc rfl ?_ (.inr rfl)
  have hl : lcRun (.fix (ns.map .int)) (lcBody (.nm 2) [2] (semC (LH.call P F (n + 1)) .nil) (semE (LH.call P F (n + 1)) (gChoE0 w)) [some (lot b k), some (.lst (ns.map .int)), none]) (ns.map .int) 0 S = .ok (ns.map fun _ => .bl true) S := by
    refine lc_map _ _ _ _ fun x hx => ?_
    have e1 := wholeG_ok hw F n x S
    obtain ⟨h1, h2⟩ := h.ran x hx
    simp [lcBody, asgG, wipeE, gChoE0, e1, lot, h1, h2]
  have hmk := mkL_f S (ns.map fun _ => D.bl true) (by simp; omega)
  have hall : biD false .all [.lst (ns.map fun _ => D.bl true)] S = .ok (.bl true) S := by
    have := all_mapG (ns.map D.int) (fun _ => true) S
    rw [List.map_map] at this
    rw [show (ns.map fun _ => D.bl true) = ns.map ((fun x => D.bl true) ∘ D.int) from rfl, this]
    simp
  have hasc := ascG_ok ha F n h.asc hn S
  generalize ns.map D.int = xs at *
  generalize (ns.map fun _ => D.bl true) = ys at *
  simp [gIsChoiceOf, startE, hl, hmk, hall, hasc, Ty.le, Ty.ix]
/-- what lets a draw, a ticket go -/
structure DrwAt (P : List Def) (i n0 : Nat) : Prop where
  ok : ∀ (F n : Nat) (b k : Int) (ns : List Int) (S : Store), n0 ≤ n → Cho b ns → (ns.length : Int) = k → ns.length ≤ 1000000 → LH.call P F n i [lot b k, .lst (ns.map .int)] S = .ok .non S
structure TktAt (P : List Def) (i n0 : Nat) : Prop where
  ok : ∀ (F n : Nat) (b k : Int) (ns : List Int) (S : Store), n0 ≤ n → Cho b ns → ns ≠ [] → ns.length ≤ 1000000 → LH.call P F n i [lot b k, .lst (ns.map .int)] S = .ok .non S
theorem drw_at {P : List Def} {kx w a c d i : Nat} (hw : P[w]? = some gIsWhole) (ha : P[a]? = some gAscends) (hc : P[c]? = some (gIsChoiceOf w a)) (hd : P[d]? = some (gIsDrawOf c)) (hi : P[i]? = some (gCheck2 d kx)) : DrwAt P i 4 := ⟨fun F n b k ns S hn h hk hl => by
  obtain ⟨n, rfl⟩ : ∃ m, n = m + 4 := ⟨n - 4, by omega⟩
  refine check2_ok hi (call_ret hd rfl ?_ (.inr rfl))
  have e2 := choG_ok hw ha hc F n (k := k) h hl S
  have hkl : ((ns.map D.int).length : Int) = k := by simpa using hk
  generalize ns.map D.int = xs at *
  unfold lot at e2 ⊢
  simp [gIsDrawOf, startE, e2, hkl]⟩
theorem tkt_at {P : List Def} {kx w a c d i : Nat} (hw : P[w]? = some gIsWhole) (ha : P[a]? = some gAscends) (hc : P[c]? = some (gIsChoiceOf w a)) (hd : P[d]? = some (gIsTicketOf c)) (hi : P[i]? = some (gCheck2 d kx)) : TktAt P i 4 := ⟨fun F n b k ns S hn h hk hl => by
  obtain ⟨n, rfl⟩ : ∃ m, n = m + 4 := ⟨n - 4, by omega⟩
  refine check2_ok hi (call_ret hd rfl ?_ (.inr rfl))
  have e2 := choG_ok hw ha hc F n (k := k) h hl S
  have e3 := (ne_nilD (S := S) (plain_ints ns)).1
  have hem : (ns.map D.int).isEmpty = false := by cases ns <;> simp at hk ⊢
  rw [hem] at e3
  have e4 := mkL_f S [] (by simp)
  generalize ns.map D.int = xs at *
  unfold lot at e2 ⊢
  simp [gIsTicketOf, startE, e2, e3, e4]⟩
/-! ways to choose -/
def gChoose : Def := ⟨4, 2, false,
    (.cons (.ifs (.or (.cmp .lt (.loc 1) (.cst (.int 0))) (.cmp .gt (.loc 1) (.loc 0))) (.cons (.ret (.cst (.int 0)))
    .nil) .nil)
    (.cons (.asg (.nm 2) (.cst (.int 1)))
    (.cons (.for_ (.nm 3) (.rng1 (.bi false .min (.cons (.loc 1) (.cons (.bin false .sub (.loc 0) (.loc 1)) .nil)))) gPicksB)
    (.cons (.ret (.loc 2))
    .nil))))⟩
structure ChAt (P : List Def) (i : Nat) : Prop where
  ok : ∀ (F n : Nat) (many few : Int) (S : Store), many ≤ 2000 → LH.call P F (n + 1) i [.int many, .int few] S = .ok (.int (ch many few)) S
theorem picks_loopG {cc : Nat → List D → Store → R D} {F : Nat} {many : Nat} {t : Nat} (few : D) (hm : many ≤ 2000) (hf : t ≤ many) (S : Store) (q : Option D) :
    ∃ q', forRun (.fix (rngD 0 t)) (.nm 3) (semB cc F gPicksB) (rngD 0 t) 0 [some (.int many), some few, some (.int 1), q] S = .nx [some (.int many), some few, some (.int (pas many t : Nat)), q'] S := by
  obtain ⟨ρ', S', e, rfl, q', rfl⟩ := for_fix0 (g := .nm 3) (ys := rngD 0 t) (body := semB cc F gPicksB) (fun t ρ S' => S' = S ∧ ∃ q', ρ = [some (.int many), some few, some (.int (pas many t : Nat)), q']) (rngD 0 t) [some (.int many), some few, some (.int 1), q] S ⟨rfl, q, by rw [pas_zero]; rfl⟩ (by
    intro t x ρ S' hx hI
    obtain ⟨rfl, q', rfl⟩ := hI
    obtain ⟨rfl, ht⟩ := rng_at hx
    have b1 := pas_le many t
    have b2 : 2 ^ many ≤ 2 ^ 2000 := Nat.pow_le_pow_right (by decide) hm
    have b3 : (2 : Nat) ^ 2000 < 2 ^ 2001 := Nat.pow_lt_pow_right (by decide) (by decide)
    have s1 : smallI (pas many t : Nat) = true := small_pow (k := 2001) (by simp only [Int.natAbs_natCast]; omega) (by decide)
    have s2 : smallI ((many : Int) - (t : Int)) = true := small64 (by omega)
    have s3 : smallI ((t : Int) + 1) = true := small64 (by omega)
    have ne : (t : Int) + 1 ≠ 0 := by omega
    have e1 : ((pas many t : Nat) * ((many : Int) - (t : Int))).fdiv ((t : Int) + 1) = ((pas many (t + 1) : Nat) : Int) := by
      rw [Int.fdiv_eq_ediv_of_nonneg _ (by omega), pas_div, show (many : Int) - (t : Int) = ((many - t : Nat) : Int) by omega]
      norm_cast
    exact ⟨[some (.int many), some few, some (.int (pas many t : Nat)), some (.int t)], [some (.int many), some few, some (.int (pas many (t + 1) : Nat)), some (.int t)], S', rfl, .inl (by
      simp [gPicksB, asg_nm, s1, s2, s3, ne, e1]), rfl, _, rfl⟩)
  rw [rng_len] at e
  exact ⟨q', by simpa using e⟩
theorem ch_atP {P : List Def} {i : Nat} (hi : P[i]? = some gPicks) : ChAt P i := ⟨fun F n many few S hm => by
  refine call_ret hi rfl ?_ (.inr rfl)
  by_cases h0 : few < 0
  · rw [ch_neg h0]; simp [gPicks, startE, h0]
  · by_cases h1 : many < few
    · rw [ch_gt h1]; simp [gPicks, startE, h0, h1]
    · obtain ⟨f, rfl⟩ : ∃ f : Nat, few = f := ⟨few.toNat, by omega⟩
      obtain ⟨m, rfl⟩ : ∃ f : Nat, many = f := ⟨many.toNat, by omega⟩
      obtain ⟨q', e⟩ := picks_loopG (cc := LH.call P F n) (F := F) (many := m) (t := f) (.int (f : Int)) (by omega) (by omega) S none
      have ok : okR (f : Int) = true := decide_eq_true ⟨by omega, by omega⟩
      rw [ch_nat]
      simp [gPicks, startE, asg_nm, h0, h1, ok, e]⟩
theorem ch_at {P : List Def} {i : Nat} (hi : P[i]? = some gChoose) : ChAt P i := ⟨fun F n many few S hm => by
  refine call_ret hi rfl ?_ (.inr rfl)
  by_cases h0 : few < 0
  · rw [ch_neg h0]; simp [gChoose, startE, h0]
  · by_cases h1 : many < few
    · rw [ch_gt h1]; simp [gChoose, startE, h0, h1]
    · obtain ⟨f, rfl⟩ : ∃ f : Nat, few = f := ⟨few.toNat, by omega⟩
      obtain ⟨m, rfl⟩ : ∃ f : Nat, many = f := ⟨many.toNat, by omega⟩
      obtain ⟨t, ht⟩ : ∃ t : Nat, (t : Int) = if (m : Int) - f < f then (m : Int) - f else f := by
        split
        · exact ⟨m - f, by omega⟩
        · exact ⟨f, rfl⟩
      have htm : t ≤ m := by split at ht <;> omega
      have hp : pas m t = pas m f := by
        split at ht
        · rw [show t = m - f by omega, pas_sym m f (by omega)]
        · rw [show t = f by omega]
      obtain ⟨q', e⟩ := picks_loopG (cc := LH.call P F n) (F := F) (many := m) (t := t) (.int (f : Int)) (by omega) htm S none
      have ok : okR (t : Int) = true := decide_eq_true ⟨by omega, by omega⟩
      have hb : biD false .min [.int (f : Int), .int ((m : Int) - f)] S = .ok (.int (t : Int)) S := by rw [b_min2, ht]
      rw [ch_nat, ← hp]
      simp only [b_min2] at hb
      simp [gChoose, startE, asg_nm, h0, h1, hb, ok, e]⟩
end LH

namespace LH
open PySem hiding call truthy
open PySem.W L2 PySem.Spec PyProof.Rows
/-! ## Euclid where the two numbers stand anywhere -/
section
variable {test : LH.Env → Store → R Bool} {body : LH.Env → Store → RS} {S : Store} {ev : Int → Int → LH.Env}
theorem euclidE (ht : ∀ (a : Int) (b : Nat), test (ev a b) S = .ok (decide (0 < b)) S)
    (hb : ∀ (a : Int) (b : Nat), 0 < b → body (ev a b) S = .nx (ev b (a % b)) S) :
    ∀ (n a b fuel : Nat), b < 2 ^ n → 2 * n + 1 ≤ fuel → whileRun test body fuel (ev a b) S = .nx (ev (Nat.gcd a b : Nat) (0 : Nat)) S := by
  have step : ∀ (a b fuel : Nat), whileRun test body (fuel + 1) (ev a b) S = if b = 0 then .nx (ev a b) S else whileRun test body fuel (ev b (a % b : Nat)) S := by
    intro a b fuel
    simp only [whileRun, ht, toS_ok]
    by_cases h : b = 0
    · subst h; simp
    · have hp : 0 < b := Nat.pos_of_ne_zero h
      simp only [decide_eq_true hp, if_true, if_neg h, hb a b hp]
      rfl
  intro n
  induction n with
  | zero =>
    intro a b fuel h hf
    obtain ⟨f, rfl⟩ : ∃ f, fuel = f + 1 := ⟨fuel - 1, by omega⟩
    have : b = 0 := by simpa using h
    subst this
    rw [step, if_pos rfl, Nat.gcd_zero_right]
  | succ n ih =>
    intro a b fuel h hf
    obtain ⟨f, rfl⟩ : ∃ f, fuel = f + 2 := ⟨fuel - 2, by omega⟩
    rw [step]
    by_cases h0 : b = 0
    · subst h0
      rw [if_pos rfl, Nat.gcd_zero_right]
    · rw [if_neg h0, step]
      by_cases h1 : a % b = 0
      · rw [if_pos h1, h1]
        have : Nat.gcd a b = b := Nat.gcd_eq_right (Nat.dvd_of_mod_eq_zero h1)
        rw [this]
      · rw [if_neg h1]
        have hlt : b % (a % b) < 2 ^ n := by
          have h2 : a % b < b := Nat.mod_lt _ (by omega)
          have h3 : b % (a % b) < a % b := Nat.mod_lt _ (by omega)
          have h4 : b % (a % b) + a % b ≤ b := by
            have := Nat.mod_add_div b (a % b)
            have h5 : 1 ≤ b / (a % b) := (Nat.one_le_div_iff (by omega)).mpr (by omega)
            have h6 : a % b * 1 ≤ a % b * (b / (a % b)) := Nat.mul_le_mul_left _ h5
            omega
          rw [Nat.pow_succ] at h
          omega
        rw [ih _ _ _ hlt (by omega)]
        have e1 : Nat.gcd (a % b) (b % (a % b)) = Nat.gcd a b := by
          rw [Nat.gcd_comm (a % b), ← Nat.gcd_rec, Nat.gcd_comm a b, Nat.gcd_rec b a]
        rw [e1]
theorem euclidI (ht : ∀ (a : Int) (b : Nat), test (ev a b) S = .ok (decide (0 < b)) S)
    (hb : ∀ (a : Int) (b : Nat), 0 < b → body (ev a b) S = .nx (ev b (a % b)) S)
    {n : Nat} {a b : Int} {fuel : Nat} (h0 : 0 < b) (h : b.natAbs < 2 ^ n) (hf : 2 * n + 2 ≤ fuel) : whileRun test body fuel (ev a b) S = .nx (ev (Int.gcd a b : Nat) (0 : Nat)) S := by
  obtain ⟨f, rfl⟩ : ∃ f, fuel = f + 1 := ⟨fuel - 1, by omega⟩
  obtain ⟨m, rfl⟩ : ∃ m : Nat, b = m := ⟨b.toNat, by omega⟩
  have hp : 0 < m := by omega
  obtain ⟨r, hr⟩ : ∃ r : Nat, a % (m : Int) = r := ⟨(a % m).toNat, by have := Int.emod_nonneg a (b := m) (by omega); omega⟩
  have hrm : r < m := by have := Int.emod_lt_of_pos a (b := (m : Int)) (by omega); omega
  simp only [Int.natAbs_natCast] at h
  simp only [whileRun, ht, toS_ok, decide_eq_true hp, if_true, hb a m hp]
  have e2 : whileRun test body f (ev (m : Int) (a % (m : Int))) S = .nx (ev (Int.gcd a (m : Int) : Nat) (0 : Nat)) S := by
    rw [hr, euclidE ht hb n m r f (by omega) (by omega)]
    have : Int.gcd a (m : Int) = Nat.gcd m r := by
      rw [Int.gcd_comm]
      have e3 : Int.gcd (m : Int) (a % (m : Int)) = Int.gcd (m : Int) a := by
        have h5 : a = a % (m : Int) + (m : Int) * (a / (m : Int)) := (Int.emod_add_mul_ediv a m).symm
        generalize a % (m : Int) = u at *
        generalize a / (m : Int) = v at *
        rw [h5, Int.gcd_add_mul_left_right]
      rw [← e3, hr]
      rfl
    rw [this]
  exact e2
end
def gLowIT : E := (.cmp .gt (.loc 3) (.cst (.int 0)))
def gLowIB : B := (.cons (.par [2, 3] (.cons (.loc 3) (.cons (.bin false .mod (.bi false .int (.cons (.loc 2) .nil)) (.loc 3)) .nil))) .nil)
/-- lowest terms, all in one -/
def gLowI : Def := ⟨4, 2, false,
    (.cons (.par [2, 3] (.cons (.loc 0) (.cons (.loc 1) .nil)))
    (.cons (.while_ gLowIT gLowIB)
    (.cons (.ret (.tup (.cons (.bin false .fdiv (.loc 0) (.loc 2)) (.cons (.bin false .fdiv (.loc 1) (.loc 2)) .nil))))
    .nil)))⟩
theorem lowI_at {P : List Def} {i : Nat} (hi : P[i]? = some gLowI) : LowAt P i 1 := ⟨fun F n a b S hn hF hb h1 h2 => by
  obtain ⟨n, rfl⟩ : ∃ m, n = m + 1 := ⟨n - 1, by omega⟩
  refine call_ret hi rfl ?_ (.inr rfl)
  have loop := euclidI (S := S) (ev := fun x y => [some (.int a), some (.int b), some (.int x), some (.int y)]) (test := semT (LH.call P F n) gLowIT) (body := semB (LH.call P F n) F gLowIB)
    (fun x y => by simp [gLowIT]) (fun x y hp => by
      have h0 : y ≠ 0 := by omega
      have e1 : x.fmod (y : Int) = x % (y : Int) := Int.fmod_eq_emod_of_nonneg _ (by omega)
      simp [gLowIB, asgN, h0, e1]) (n := 8000) (a := a) (b := b) (fuel := F) hb h2 (by omega)
  have hg : (Int.gcd a b : Int) ≠ 0 := by
    have := Int.gcd_pos_of_ne_zero_right a (b := b) (by omega)
    omega
  have hs := small_gcd (a := a) hb h2
  have f1 : ∀ x : Int, x.fdiv (Int.gcd a b : Nat) = x / (Int.gcd a b : Nat) := fun x => Int.fdiv_eq_ediv_of_nonneg _ (by omega)
  unfold fr
  generalize ((Int.gcd a b : Nat) : Int) = g at *
  simp [gLowI, startE, asgN, loop, hs, hg, f1, LMAX]⟩
/-! ## tickets -/
def gTicket (sh r : Nat) : Def := ⟨3, 2, false,
    (.cons (.asg (.nm 2) (.call sh (.cons (.loc 0) (.cons (.lrng2 false (.cst (.int 1)) (.bin false .add (.ix (.loc 1) (.cst (.int 1))) (.cst (.int 1)))) .nil))))
    (.cons (.ret (.bi false .sorted (.cons (.sl false (.loc 2) .nop (.bin false .add (.cst (.int 1)) (.call r (.cons (.loc 0) (.cons (.ix (.loc 1) (.cst (.int 1))) .nil))))) .nil)))
    .nil))⟩
theorem cut_sub {α : Type} (xs : List α) (a b : Option Int) : (LH.cutD xs a b).Sublist xs := by
  unfold LH.cutD
  exact (List.take_sublist _ _).trans (List.drop_sublist _ _)
theorem cut_to {α : Type} (xs : List α) (k : Nat) : LH.cutD xs none (some (k : Int)) = xs.take k := by
  unfold LH.cutD
  rw [HT.sIx_none, show HT.sIx xs.length xs.length (some (k : Int)) = min k xs.length from HT.sIx_nat xs.length _ k]
  simp only [List.drop_zero, Nat.sub_zero]
  rw [List.take_eq_take_iff]
  omega
theorem cut_from {α : Type} (xs : List α) (k : Nat) : LH.cutD xs (some (k : Int)) none = xs.drop k := by
  unfold LH.cutD
  rw [HT.sIx_none, show HT.sIx xs.length 0 (some (k : Int)) = min k xs.length from HT.sIx_nat xs.length 0 k]
  rw [List.take_of_length_le (by rw [List.length_drop]; omega)]
  by_cases h : k ≤ xs.length
  · rw [Nat.min_eq_left h]
  · rw [Nat.min_eq_right (by omega), List.drop_of_length_le (Nat.le_refl _), List.drop_of_length_le (by omega)]
theorem map_ints {ys : List D} (h : ∀ d ∈ ys, ∃ i : Int, d = .int i) : ∃ zs : List Int, ys = zs.map .int := by
  induction ys with
  | nil => exact ⟨[], rfl⟩
  | cons y ys ih =>
    obtain ⟨i, rfl⟩ := h y List.mem_cons_self
    obtain ⟨zs, rfl⟩ := ih fun d hd => h d (List.mem_cons_of_mem _ hd)
    exact ⟨i :: zs, rfl⟩
theorem map_int_inj : ∀ {xs ys : List Int}, xs.map D.int = ys.map D.int → xs = ys
  | [], [], _ => rfl
  | [], _ :: _, h => by simp at h
  | _ :: _, [], h => by simp at h
  | x :: xs, y :: ys, h => by
    simp only [List.map_cons, List.cons.injEq, D.int.injEq] at h
    rw [h.1, map_int_inj h.2]
theorem perm_map_int {xs ys : List Int} (h : (xs.map D.int).Perm (ys.map D.int)) : xs.Perm ys := by
  have := h.map (fun d => match d with | .int i => i | _ => 0)
  simpa [Function.comp_def] using this
theorem ticketG_ok {P : List Def} {F n ih ir is i : Nat} (hh : P[ih]? = some gHash) (hr : P[ir]? = some (gRandom ih)) (hs : P[is]? = some (gShuffled ir)) (hi : P[i]? = some (gTicket is ir)) (hF : 2000 ≤ F) {S : Store} {g m : Nat} (hg : GenAt S g m) (hC : ClS S) {b k : Int} (hm : m + 100 * b.toNat + 100 ≤ 2 ^ 3000) (h1 : 1 ≤ b) (h3 : b ≤ 1000) :
    ∃ (ns : List Int) (S' : Store), LH.call P F (n + 4) i [.ref g, lot b k] S = .ok (.lst (ns.map .int)) S' ∧ Cho b ns ∧ ns ≠ [] ∧ GenAt S' g (m + 100 * b.toNat + 100) ∧ SameBut g S S' := by
  obtain ⟨rs, hrs⟩ : ∃ rs : List Int, rngD 1 (b + 1) = rs.map .int ∧ rs.Nodup ∧ (∀ x ∈ rs, 1 ≤ x ∧ x ≤ b) ∧ rs.length = b.toNat := by
    refine ⟨(List.range (b + 1 - 1).toNat).map fun (i : Nat) => 1 + (i : Int), ?_, ?_, ?_, ?_⟩
    · unfold rngD; rw [List.map_map]; rfl
    · exact List.Pairwise.map _ (fun x y h e => h (by omega)) (List.nodup_range)
    · intro x hx
      obtain ⟨i, hi, rfl⟩ := List.mem_map.mp hx
      rw [List.mem_range] at hi
      omega
    · simp
  obtain ⟨er, rn, rr, rl⟩ := hrs
  have hpl : D.plainL 19 (rngD 1 (b + 1)) = true := by rw [er]; exact plain_ints rs
  have hrl : (rngD 1 (b + 1)).length = b.toNat := by rw [er, List.length_map, rl]
  obtain ⟨ys, S1, e1, p1, g1, s1⟩ := shuffled_ok (F := F) (n := n) hh hr hs hg hC hpl (by rw [hrl]; omega) (by rw [hrl]; omega) (by rw [hrl]; omega)
  rw [hrl] at g1
  obtain ⟨r, S2, e2, r0, r1, g2, s2⟩ := random_ok (F := F) (n := n + 1) hh hr g1 (by omega) (b := b) (by omega) (small_nat (k := 1000) (by omega) (by omega) (by decide))
  rw [er] at p1
  obtain ⟨zs, rfl⟩ := map_ints (ys := ys) fun d hd => by
    obtain ⟨x, _, rfl⟩ := List.mem_map.mp (p1.mem_iff.mp hd)
    exact ⟨x, rfl⟩
  have pz := perm_map_int p1
  have zn : zs.Nodup := pz.nodup_iff.mpr rn
  have zl : zs.length = b.toNat := by rw [pz.length_eq, rl]
  obtain ⟨r', rfl⟩ : ∃ r' : Nat, r = r' := ⟨r.toNat, by omega⟩
  have ok1 : okR 1 = true := rfl
  have ok2 : okR (b + 1) = true := decide_eq_true ⟨by omega, by omega⟩
  have hm0 := mkL_f S (rngD 1 (b + 1)) (show _ ≤ 16000000 by rw [hrl]; omega)
  have hcut : LH.cutD zs none (some (1 + (r' : Int))) = zs.take (1 + r') := by
    have := cut_to zs (1 + r')
    rw [← this]
    norm_cast
  have tl : (zs.take (1 + r')).length = 1 + r' := by rw [List.length_take, zl]; omega
  have hsl : slD false (.lst (zs.map .int)) none (some (1 + (r' : Int))) S2 = .ok (.lst ((zs.take (1 + r')).map .int)) S2 := by
    show mkL false (LH.cutD (zs.map .int) none (some (1 + (r' : Int)))) S2 = _
    rw [cutD_map, hcut, mkL_f _ _ (show _ ≤ 16000000 by rw [List.length_map]; omega)]
  have hso : biD false .sorted [.lst ((zs.take (1 + r')).map .int)] S2 = .ok (.lst ((LH.sortI (zs.take (1 + r'))).map .int)) S2 := by
    show biSorted false [.lst ((zs.take (1 + r')).map .int)] S2 = _
    unfold biSorted
    simp only [l_lst, Option.bind_some, intsD_mapC]
    exact mkL_f _ _ (show _ ≤ 16000000 by rw [List.length_map, (sortI_perm _).length_eq]; omega)
  have sp := sortI_perm (zs.take (1 + r'))
  have sn : (LH.sortI (zs.take (1 + r'))).Nodup := sp.nodup_iff.mpr (zn.sublist (List.take_sublist _ _))
  refine ⟨LH.sortI (zs.take (1 + r')), S2, call_ret hi rfl ?_ (.inr (s1.trans s2).1), ⟨?_, ?_⟩, ?_, g2, s1.trans s2⟩
  · generalize (LH.sortI (zs.take (1 + r'))).map D.int = so at hso ⊢
    generalize (zs.take (1 + r')).map D.int = cu at hso hsl
    generalize zs.map D.int = zz at e1 hsl
    unfold lot
    simp [gTicket, startE, asgG, ok1, ok2, hm0, e1, e2, partE, E.isNop, hsl, hso]
  · have hso := sortI_sorted (zs.take (1 + r'))
    exact (hso.and sn).imp fun ⟨h1, h2⟩ => by omega
  · intro x hx
    exact rr x (pz.mem_iff.mp (List.mem_of_mem_take (sp.mem_iff.mp hx)))
  · intro e
    have := sp.length_eq
    rw [e, tl] at this
    simp at this
    omega
theorem Cho.sub {b : Int} {ns ms : List Int} (h : Cho b ns) (hs : ms.Sublist ns) : Cho b ms := ⟨h.asc.sublist hs, fun x hx => h.ran x (hs.mem hx)⟩
end LH

namespace LH
open PySem hiding call truthy
open PySem.W L2 PySem.Spec PyProof.Rows
/-! ## draws numbered -/
theorem in_intsG (S : Store) (x : Int) (ns : List Int) : cmpD S .in_ (.int x) (.lst (ns.map .int)) = some (decide (x ∈ ns)) := by
  show inD S (.int x) (.lst (ns.map .int)) = _
  unfold inD
  have h1 : rd S (.int x) = some (.int x) := rd_plain' (k := 0) rfl
  have h2 : D.travL (fun n => rd S (.ref n)) (ns.map D.int) = some (ns.map D.int) := plain_travL (plain_ints ns)
  have h3 : (D.lst (ns.map D.int)).plain DEEP = true := plain_ints ns
  have h4 : (D.int x).plain DEEP = true := rfl
  simp only [l_lst, h1, h2, h3, h4, Bool.and_self, if_true]
  congr 1
  induction ns with
  | nil => rfl
  | cons n ns ih =>
    have ih := ih (plain_travL (plain_ints ns)) (plain_ints ns)
    rw [List.map_cons, List.any_cons, ih]
    show (n == x || _) = _
    by_cases h : n = x
    · subst h; simp
    · have : ¬ x = n := fun e => h e.symm
      simp [h, this]
def gBothE : E := (.loc 2)
def gBothQ : EL := (.cons (.cmp .in_ (.loc 2) (.loc 1)) .nil)
def gBoth : Def := ⟨3, 2, false,
    (.cons (.ret (.lc false [((Str.ofString "ball"), 2)] gBothE (.nm 2) (.it (.loc 0)) gBothQ))
    .nil)⟩
def bothI (xs ys : List Int) : List Int := xs.filter fun x => decide (x ∈ ys)
theorem both_ok {P : List Def} {i : Nat} (hi : P[i]? = some gBoth) (F n : Nat) {xs ys : List Int} (hl : xs.length ≤ 1000000) (S : Store) : LH.call P F (n + 1) i [.lst (xs.map .int), .lst (ys.map .int)] S = .ok (.lst ((bothI xs ys).map .int)) S := by
  refine call_ret hi rfl ?_ (.inr rfl)
  have hrun : lcRun (.fix (xs.map .int)) (lcBody (.nm 2) [2] (semC (LH.call P F n) gBothQ) (semE (LH.call P F n) gBothE) [some (.lst (xs.map .int)), some (.lst (ys.map .int)), none]) (xs.map .int) 0 S = .ok ((bothI xs ys).map .int) S := by
    refine lc_sel _ _ _ _ _ fun x hx => ?_
    have e := in_intsG S x ys
    generalize ys.map D.int = yy at e ⊢
    by_cases h : x ∈ ys <;> simp [lcBody, asgG, wipeE, gBothQ, gBothE, e, h]
  have hmk := mkL_f S ((bothI xs ys).map D.int) (by
    have := List.length_filter_le (fun x => decide (x ∈ ys)) xs
    unfold bothI
    rw [List.length_map]
    show _ ≤ 16000000
    omega)
  generalize xs.map D.int = xx at *
  generalize ys.map D.int = yy at *
  simp [gBoth, startE, hrun, hmk]
def gNumDraws (c : Nat) : Def := ⟨1, 1, false,
    (.cons (.ret (.call c (.cons (.ix (.loc 0) (.cst (.int 1))) (.cons (.ix (.loc 0) (.cst (.int 2))) .nil))))
    .nil)⟩
def gHowMany (chk nd : Nat) : Def := ⟨1, 1, false,
    (.cons (.exp (.call chk (.cons (.loc 0) .nil)))
    (.cons (.ret (.call nd (.cons (.loc 0) .nil)))
    .nil))⟩
theorem num_draws_ok {P : List Def} {c i : Nat} (hc : ChAt P c) (hi : P[i]? = some (gNumDraws c)) (F n : Nat) {b k : Int} (hb : b ≤ 2000) (S : Store) : LH.call P F (n + 2) i [lot b k] S = .ok (.int (ch b k)) S := by
  refine call_ret hi rfl ?_ (.inr rfl)
  have e := hc.ok F n b k S hb
  simp [gNumDraws, startE, lot, e]
theorem how_many_ok {P : List Def} {c i nd chk : Nat} (hc : ChAt P c) (hk : LotAt P chk 3) (hn : P[nd]? = some (gNumDraws c)) (hi : P[i]? = some (gHowMany chk nd)) (F n : Nat) {b k : Int} (h1 : 1 ≤ k) (h2 : k ≤ b) (hb : b ≤ 2000) (S : Store) : LH.call P F (n + 4) i [lot b k] S = .ok (.int (ch b k)) S := by
  refine call_ret hi rfl ?_ (.inr rfl)
  have e := num_draws_ok hc hn F (n + 1) (b := b) (k := k) hb S
  have e2 := hk.ok F (n + 3) b k S (by omega) h1 h2
  simp [gHowMany, startE, e, e2]
/-- what the balls of a draw leave out -/
def cs (b k : Int) : Nat → List Int → Int
  | _, [] => 0
  | at_, f :: r => ch (b - f) (k - at_) + cs b k (at_ + 1) r
theorem cs_app (b k : Int) (x : Int) : ∀ (l : List Int) (j : Nat), cs b k j (l ++ [x]) = cs b k j l + ch (b - x) (k - ((j + l.length : Nat) : Int))
  | [], j => by simp [cs]
  | f :: r, j => by
    show ch (b - f) (k - j) + cs b k (j + 1) (r ++ [x]) = (ch (b - f) (k - j) + cs b k (j + 1) r) + _
    rw [cs_app b k x r (j + 1), List.length_cons, show j + 1 + r.length = j + (r.length + 1) by omega]
    omega
theorem cs_take (b k : Int) (l : List Int) {i : Nat} (h : i < l.length) : cs b k 0 (l.take (i + 1)) = cs b k 0 (l.take i) + ch (b - l[i]) (k - (i : Int)) := by
  rw [List.take_succ_eq_append_getElem h, cs_app, List.length_take, Nat.min_eq_left (by omega), Nat.zero_add]
def dst (b k x : Int) : Nat → List Int × Int
  | 0 => ([], x)
  | j + 1 =>
    let p := dst b k x j
    let w := ch (b - ((j : Int) + 1)) (k - (p.1.length : Int) - 1)
    if (p.1.length : Int) < k then (if p.2 < w then (p.1 ++ [(j : Int) + 1], p.2) else (p.1, p.2 - w)) else p
def dAt (b k x : Int) : List Int := (dst b k x b.toNat).1
structure DInv (b k x : Int) (j : Nat) (p : List Int × Int) : Prop where
  asc : p.1.Pairwise (· < ·)
  ran : ∀ y ∈ p.1, 1 ≤ y ∧ y ≤ (j : Int)
  len : (p.1.length : Int) ≤ k
  lo : 0 ≤ p.2
  hi : p.2 < ch (b - j) (k - p.1.length)
  num : ch b k - cs b k 0 p.1 + p.2 = x + ch (b - j) (k - p.1.length)
theorem dst_inv {b k x : Int} (h0 : 0 ≤ k) (hx : 0 ≤ x) (hx2 : x < ch b k) : ∀ j : Nat, (j : Int) ≤ b → DInv b k x j (dst b k x j)
  | 0, _ => ⟨by simp [dst], by simp [dst], by simpa [dst] using h0, hx, by simpa [dst] using hx2, by simp [dst, cs]; omega⟩
  | j + 1, hj => by
    have ih := dst_inv h0 hx hx2 j (by omega)
    obtain ⟨p, hp⟩ : ∃ p, p = dst b k x j := ⟨_, rfl⟩
    rw [← hp] at ih
    have hs : ch (b - (j : Int)) (k - p.1.length) = ch (b - ((j : Int) + 1)) (k - p.1.length) + ch (b - ((j : Int) + 1)) (k - p.1.length - 1) := by
      rw [show b - (j : Int) = (b - ((j : Int) + 1)) + 1 by omega, ch_succ (by omega)]
    have cj : ((j + 1 : Nat) : Int) = (j : Int) + 1 := by omega
    have i1 := ih.hi
    have i2 := ih.num
    have i3 := ih.lo
    rw [hs] at i1 i2
    show DInv b k x (j + 1) (if ((dst b k x j).1.length : Int) < k then (if (dst b k x j).2 < ch (b - ((j : Int) + 1)) (k - ((dst b k x j).1.length : Int) - 1) then ((dst b k x j).1 ++ [(j : Int) + 1], (dst b k x j).2) else ((dst b k x j).1, (dst b k x j).2 - ch (b - ((j : Int) + 1)) (k - ((dst b k x j).1.length : Int) - 1))) else dst b k x j)
    rw [← hp]
    have hran : ∀ y ∈ p.1, 1 ≤ y ∧ y ≤ ((j + 1 : Nat) : Int) := fun y hy => by have := ih.ran y hy; omega
    split
    · rename_i hlt
      split
      · rename_i hw
        have hl : (((p.1 ++ [(j : Int) + 1]).length : Nat) : Int) = (p.1.length : Int) + 1 := by rw [List.length_append]; rfl
        have hk1 : k - ((p.1.length : Int) + 1) = k - p.1.length - 1 := by omega
        refine ⟨?_, ?_, by rw [hl]; omega, i3, by rw [hl, hk1, cj]; exact hw, ?_⟩
        · rw [List.pairwise_append]
          exact ⟨ih.asc, by simp, fun y hy z hz => by
            have := ih.ran y hy
            simp at hz
            omega⟩
        · intro y hy
          rcases List.mem_append.mp hy with hy | hy
          · exact hran y hy
          · simp at hy; omega
        · show ch b k - cs b k 0 (p.1 ++ [(j : Int) + 1]) + p.2 = x + ch (b - ((j + 1 : Nat) : Int)) (k - (((p.1 ++ [(j : Int) + 1]).length : Nat) : Int))
          rw [hl, hk1, cj, cs_app, Nat.zero_add]
          omega
      · rename_i hw
        refine ⟨ih.asc, hran, ih.len, by show 0 ≤ p.2 - _; omega, ?_, ?_⟩
        · show p.2 - _ < ch (b - ((j + 1 : Nat) : Int)) (k - (p.1.length : Int))
          rw [cj]; omega
        · show ch b k - cs b k 0 p.1 + (p.2 - _) = x + ch (b - ((j + 1 : Nat) : Int)) (k - (p.1.length : Int))
          rw [cj]; omega
    · rename_i hlt
      have hl := ih.len
      have hk0 : k - (p.1.length : Int) = 0 := by omega
      rw [hk0] at i1 i2
      have z : ch (b - ((j : Int) + 1)) (0 - 1) = 0 := ch_neg (by omega)
      rw [z] at i1 i2
      refine ⟨ih.asc, hran, hl, i3, ?_, ?_⟩
      · rw [cj, hk0]; omega
      · rw [cj, hk0]; omega
theorem dAt_spec {b k x : Int} (h0 : 0 ≤ k) (hb : 0 ≤ b) (hx : 0 ≤ x) (hx2 : x < ch b k) : Cho b (dAt b k x) ∧ ((dAt b k x).length : Int) = k ∧ ch b k - 1 - cs b k 0 (dAt b k x) = x := by
  have h := dst_inv h0 hx hx2 b.toNat (by omega)
  obtain ⟨i1, i2, i3, i4, i5, i6⟩ := h
  unfold dAt
  generalize dst b k x b.toNat = p at *
  have e : b - (b.toNat : Int) = 0 := by omega
  rw [e] at i5 i6
  have hk : (p.1.length : Int) = k := by
    by_cases hlt : (p.1.length : Int) < k
    · rw [ch_gt (by omega)] at i5; omega
    · omega
  rw [hk, Int.sub_self, ch_zero (by omega)] at i5 i6
  exact ⟨⟨i1, fun y hy => by have := i2 y hy; omega⟩, hk, by omega⟩
def gDrawAtB (c : Nat) : B := (.cons (.asg (.nm 5) (.call c (.cons (.bin false .sub (.ix (.loc 0) (.cst (.int 1))) (.loc 2)) (.cons (.bin false .sub (.bin false .sub (.ix (.loc 0) (.cst (.int 2))) (.bi false .len (.cons (.loc 3) .nil))) (.cst (.int 1))) .nil))))
    (.cons (.ifs (.cmp .lt (.bi false .len (.cons (.loc 3) .nil)) (.ix (.loc 0) (.cst (.int 2)))) (.cons (.ifs (.cmp .lt (.loc 4) (.loc 5)) (.cons (.exp (.me false .append (.loc 3) (.cons (.loc 2) .nil)))
    .nil) (.cons (.asg (.nm 4) (.bin false .sub (.loc 4) (.loc 5)))
    .nil))
    .nil) .nil)
    .nil))
def gDrawAt (chk cnt nd c : Nat) : Def := ⟨6, 2, false,
    (.cons (.exp (.call chk (.cons (.loc 0) .nil)))
    (.cons (.ifs (.or (.not (.call cnt (.cons (.loc 1) .nil))) (.cmp .ge (.loc 1) (.call nd (.cons (.loc 0) .nil)))) (.cons (.raise 2 (.cons (.loc 1) .nil))
    .nil) .nil)
    (.cons (.par [3, 4] (.cons (.lst true .nil) (.cons (.loc 1) .nil)))
    (.cons (.for_ (.nm 2) (.rng2 (.cst (.int 1)) (.bin false .add (.ix (.loc 0) (.cst (.int 1))) (.cst (.int 1)))) (gDrawAtB c))
    (.cons (.ret (.loc 3))
    .nil)))))⟩
theorem rng2_atG {lo hi : Int} {t : Nat} {x : D} (h : (rngD lo hi)[t]? = some x) : x = .int (lo + (t : Int)) ∧ lo + (t : Int) < hi := by
  unfold rngD at h
  rw [List.getElem?_map, Option.map_eq_some_iff] at h
  obtain ⟨y, hy, rfl⟩ := h
  obtain ⟨h1, h2⟩ := List.getElem?_eq_some_iff.mp hy
  rw [List.length_range] at h1
  rw [List.getElem_range] at h2
  subst h2
  exact ⟨rfl, by omega⟩
theorem rng2_lenG (lo hi : Int) : (rngD lo hi).length = (hi - lo).toNat := by unfold rngD; simp
theorem set_last (S : Store) (o o' : Ob) : (S ++ [o]).set S.length o' = S ++ [o'] := by
  rw [List.set_append_right _ _ (Nat.le_refl _)]
  simp
theorem draw_at_ok {P : List Def} {w cnt chk nd c i : Nat} (hw : P[w]? = some gIsWhole) (hcn : P[cnt]? = some (gIsCount w)) (hk : LotAt P chk 3) (hn : P[nd]? = some (gNumDraws c)) (hc : ChAt P c) (hi : P[i]? = some (gDrawAt chk cnt nd c)) (F n : Nat) {b k x : Int} (h1 : 1 ≤ k) (h2 : k ≤ b) (hb : b ≤ 2000) (hx : 0 ≤ x) (hx2 : x < ch b k) {S : Store} (hC : ClS S) :
    LH.call P F (n + 4) i [lot b k, .int x] S = .ok (.lst ((dAt b k x).map .int)) S := by
  have e1 := hk.ok F (n + 3) b k S (by omega) h1 h2
  have e2 := countG_ok hw hcn F (n + 1) hx S
  have e3 := num_draws_ok hc hn F (n + 1) (b := b) (k := k) hb S
  obtain ⟨ρ', S', e, rfl, q2, q5, rfl⟩ := for_fix0 (g := .nm 2) (ys := rngD 1 (b + 1)) (body := semB (LH.call P F (n + 3)) F (gDrawAtB c)) (fun j ρ S' => S' = S ++ [.lst ((dst b k x j).1.map .int)] ∧ ∃ q2 q5, ρ = [some (lot b k), some (.int x), q2, some (.ref S.length), some (.int (dst b k x j).2), q5]) (rngD 1 (b + 1)) [some (lot b k), some (.int x), none, some (.ref S.length), some (.int x), none] (S ++ [.lst []]) ⟨rfl, none, none, rfl⟩ (by
    intro j y ρ S' hy hI
    obtain ⟨rfl, q2, q5, rfl⟩ := hI
    obtain ⟨rfl, hj⟩ := rng2_atG hy
    have iv := dst_inv (b := b) (k := k) (by omega) hx hx2 j (by omega)
    have hat : ∀ l : List Int, (S ++ [.lst (l.map .int)])[S.length]? = some (.lst (l.map .int)) := fun l => by simp
    have ej : (1 : Int) + (j : Int) = (j : Int) + 1 := by omega
    rw [ej]
    obtain ⟨p, hp⟩ : ∃ p, p = dst b k x j := ⟨_, rfl⟩
    have hnx : dst b k x (j + 1) = (if (p.1.length : Int) < k then (if p.2 < ch (b - ((j : Int) + 1)) (k - (p.1.length : Int) - 1) then (p.1 ++ [(j : Int) + 1], p.2) else (p.1, p.2 - ch (b - ((j : Int) + 1)) (k - (p.1.length : Int) - 1))) else p) := by rw [hp]; rfl
    rw [hnx, ← hp]
    rw [← hp] at iv
    have ec := hc.ok F (n + 2) (b - ((j : Int) + 1)) (k - (p.1.length : Int) - 1) (S ++ [.lst (p.1.map .int)]) (by omega)
    have at1 := hat p.1
    have q1 := rcv_app at1
    have q3 := len_ref at1
    have eapp := app_ref at1 (by
      have := iv.len
      rw [List.length_map]
      show _ < 16000000
      omega) false (.int ((j : Int) + 1))
    rw [set_last] at eapp
    have hll : ((p.1.map D.int).length : Int) = (p.1.length : Int) := by simp
    rw [hll] at q3
    refine ⟨[some (lot b k), some (.int x), some (.int ((j : Int) + 1)), some (.ref S.length), some (.int p.2), q5], _, S ++ [.lst ((if (p.1.length : Int) < k then (if p.2 < ch (b - ((j : Int) + 1)) (k - (p.1.length : Int) - 1) then (p.1 ++ [(j : Int) + 1], p.2) else (p.1, p.2 - ch (b - ((j : Int) + 1)) (k - (p.1.length : Int) - 1))) else p).1.map .int)], rfl, .inl ?_, rfl, some (.int ((j : Int) + 1)), some (.int (ch (b - ((j : Int) + 1)) (k - (p.1.length : Int) - 1))), rfl⟩
    generalize hW : ch (b - ((j : Int) + 1)) (k - (p.1.length : Int) - 1) = W at *
    generalize (p.1.length : Int) = pl at *
    generalize LH.call P F (n + 2 + 1) = cc at ec ⊢
    obtain ⟨fs, lf⟩ := p
    unfold lot
    by_cases c1 : pl < k
    · by_cases c2 : lf < W
      · have em : (fs ++ [(j : Int) + 1]).map D.int = fs.map D.int ++ [.int ((j : Int) + 1)] := by simp
        rw [if_pos c1, if_pos c2, em]
        simp only at at1 q1 q3 eapp ec
        generalize fs.map D.int = fd at *
        simp [gDrawAtB, asg_nm, q3, ec, c1, c2, q1, eapp]
      · rw [if_pos c1, if_neg c2]
        simp only at at1 q1 q3 eapp ec
        generalize fs.map D.int = fd at *
        simp [gDrawAtB, asg_nm, q3, ec, c1, c2]
    · rw [if_neg c1]
      simp only at at1 q1 q3 eapp ec
      generalize fs.map D.int = fd at *
      simp [gDrawAtB, asg_nm, q3, ec, c1])
  have hlen : (rngD 1 (b + 1)).length = b.toNat := by rw [rng2_lenG]; omega
  rw [hlen] at e
  have he : (dst b k x b.toNat).1 = dAt b k x := rfl
  rw [he] at e
  have hat : (S ++ [.lst ((dAt b k x).map D.int)])[S.length]? = some (.lst ((dAt b k x).map D.int)) := by simp
  have hfin := fin_lst (Nat.le_refl S.length) hat (plain_ints (dAt b k x)) (fun i o h ho => by
    rw [List.getElem?_append_left h] at ho
    exact hC i o ho)
  rw [List.take_left] at hfin
  rw [← hfin]
  refine call_rt hi rfl ?_
  have h1 : mkL true [] S = .ok (.ref S.length) (S ++ [.lst []]) := mkL_t _ _ (by simp)
  have ok1 : okR 1 = true := rfl
  have ok2 : okR (b + 1) = true := decide_eq_true ⟨by omega, by omega⟩
  have hge : ¬ (ch b k ≤ x) := by omega
  generalize (dAt b k x).map D.int = dd at *
  generalize (dst b k x b.toNat).2 = lf at *
  generalize ch b k = C at *
  generalize LH.call P F (n + 3) = cc at *
  unfold lot at *
  simp [gDrawAt, startE, asgN, e1, e2, e3, h1, ok1, ok2, hge, e]
def gDrawNumB (c : Nat) : B := (.cons (.asg (.nm 2) (.bin false .sub (.loc 2) (.call c (.cons (.bin false .sub (.ix (.loc 0) (.cst (.int 1))) (.loc 4)) (.cons (.bin false .sub (.ix (.loc 0) (.cst (.int 2))) (.loc 3)) .nil)))))
    .nil)
def gDrawNum (chk ckd nd c : Nat) : Def := ⟨5, 2, false,
    (.cons (.exp (.call chk (.cons (.loc 0) .nil)))
    (.cons (.exp (.call ckd (.cons (.loc 0) (.cons (.loc 1) .nil))))
    (.cons (.asg (.nm 2) (.bin false .sub (.call nd (.cons (.loc 0) .nil)) (.cst (.int 1))))
    (.cons (.for_ (.tp (.cons (.nm 3) (.cons (.nm 4) .nil))) (.enum (.loc 1)) (gDrawNumB c))
    (.cons (.ret (.loc 2))
    .nil)))))⟩
def enumD (xs : List D) : List D := (List.range xs.length).zip xs |>.map fun p => .tup [.int (p.1 : Nat), p.2]
theorem enum_len (xs : List D) : (enumD xs).length = xs.length := by unfold enumD; simp
theorem enum_at {xs : List Int} {t : Nat} {x : D} (h : (enumD (xs.map .int))[t]? = some x) : ∃ ht : t < xs.length, x = .tup [.int (t : Int), .int xs[t]] := by
  unfold enumD at h
  rw [List.getElem?_map, Option.map_eq_some_iff] at h
  obtain ⟨y, hy, rfl⟩ := h
  obtain ⟨g1, g2⟩ := List.getElem?_zip_eq_some.mp hy
  obtain ⟨h1, h2⟩ := List.getElem?_eq_some_iff.mp g1
  obtain ⟨h3, h4⟩ := List.getElem?_eq_some_iff.mp g2
  rw [List.length_map] at h3
  rw [List.getElem_range] at h2
  rw [List.getElem_map] at h4
  exact ⟨h3, by rw [← h2, ← h4]⟩
theorem draw_num_ok {P : List Def} {chk ckd nd c i : Nat} (hk : LotAt P chk 3) (hd : DrwAt P ckd 4) (hn : P[nd]? = some (gNumDraws c)) (hc : ChAt P c) (hi : P[i]? = some (gDrawNum chk ckd nd c)) (F n : Nat) {b k : Int} (h1 : 1 ≤ k) (h2 : k ≤ b) (hb : b ≤ 2000) {ns : List Int} (hns : Cho b ns) (hl : (ns.length : Int) = k) (S : Store) :
    LH.call P F (n + 5) i [lot b k, .lst (ns.map .int)] S = .ok (.int (ch b k - 1 - cs b k 0 ns)) S := by
  have e1 := hk.ok F (n + 4) b k S (by omega) h1 h2
  have e2 := hd.ok F (n + 4) b k ns S (by omega) hns hl (by omega)
  have e3 := num_draws_ok hc hn F (n + 2) (b := b) (k := k) hb S
  obtain ⟨ρ', S', e, rfl, q3, q4, rfl⟩ := for_fix0 (g := .tp (.cons (.nm 3) (.cons (.nm 4) .nil))) (ys := enumD (ns.map .int)) (body := semB (LH.call P F (n + 4)) F (gDrawNumB c)) (fun j ρ S' => S' = S ∧ ∃ q3 q4, ρ = [some (lot b k), some (.lst (ns.map .int)), some (.int (ch b k - 1 - cs b k 0 (ns.take j))), q3, q4]) (enumD (ns.map .int)) [some (lot b k), some (.lst (ns.map .int)), some (.int (ch b k - 1)), none, none] S ⟨rfl, none, none, by simp [cs]⟩ (by
    intro j y ρ S' hy hI
    obtain ⟨rfl, q3, q4, rfl⟩ := hI
    obtain ⟨ht, rfl⟩ := enum_at hy
    have hr := hns.ran ns[j] (List.getElem_mem ht)
    have ec := hc.ok F (n + 3) (b - ns[j]) (k - (j : Int)) S' (by omega)
    refine ⟨[some (lot b k), some (.lst (ns.map .int)), some (.int (ch b k - 1 - cs b k 0 (ns.take j))), some (.int (j : Int)), some (.int ns[j])], _, S', by simp [asgG, asgL], .inl ?_, rfl, some (.int (j : Int)), some (.int ns[j]), rfl⟩
    rw [cs_take b k ns ht]
    have ea : ch b k - 1 - (cs b k 0 (ns.take j) + ch (b - ns[j]) (k - (j : Int))) = (ch b k - 1 - cs b k 0 (ns.take j)) - ch (b - ns[j]) (k - (j : Int)) := by omega
    rw [ea]
    generalize ch (b - ns[j]) (k - (j : Int)) = w at *
    generalize ch b k - 1 - cs b k 0 (ns.take j) = v at *
    generalize ns[j] = x at *
    generalize LH.call P F (n + 3 + 1) = cc at *
    unfold lot
    simp [gDrawNumB, asg_nm, ec])
  rw [enum_len, List.length_map, List.take_length] at e
  refine call_ret hi rfl ?_ (.inr rfl)
  have hen : ∀ xs : List D, ((List.range xs.length).zip xs |>.map fun p => D.tup [.int (p.1 : Nat), p.2]) = enumD xs := fun _ => rfl
  generalize cs b k 0 ns = v at *
  generalize ch b k = C at *
  generalize ns.map D.int = dd at *
  generalize LH.call P F (n + 4) = cc at *
  generalize hE : enumD dd = en at e
  unfold lot at *
  simp [gDrawNum, startE, asg_nm, e1, e2, e3, hen, hE, e]
end LH

namespace LH
open PySem hiding call truthy
open PySem.W L2 PySem.Spec PyProof.Rows
/-! ## right ones: how many draws, chances -/
def g_number_right (i_choose : Nat) : Def := ⟨3, 3, false,
    (.cons (.ret (.bin false .mul (.call i_choose (.cons (.loc 1) (.cons (.loc 2) .nil))) (.call i_choose (.cons (.bin false .sub (.ix (.loc 0) (.cst (.int 1))) (.loc 1)) (.cons (.bin false .sub (.ix (.loc 0) (.cst (.int 2))) (.loc 2)) .nil)))))
    .nil)⟩
def g_check_right (i_check_lottery i_check_ticket i_check_number : Nat) : Def := ⟨3, 3, false,
    (.cons (.exp (.call i_check_lottery (.cons (.loc 0) .nil)))
    (.cons (.exp (.call i_check_ticket (.cons (.loc 0) (.cons (.loc 1) .nil))))
    (.cons (.exp (.call i_check_number (.cons (.loc 2) .nil)))
    .nil)))⟩
def g_draws_with (i_check_right i_number_right : Nat) : Def := ⟨3, 3, false,
    (.cons (.exp (.call i_check_right (.cons (.loc 0) (.cons (.loc 1) (.cons (.loc 2) .nil)))))
    (.cons (.ret (.call i_number_right (.cons (.loc 0) (.cons (.bi false .len (.cons (.loc 1) .nil)) (.cons (.loc 2) .nil)))))
    .nil))⟩
def g_chance_right (i_check_right i_lowest_of i_number_right i_number_of_draws : Nat) : Def := ⟨3, 3, false,
    (.cons (.exp (.call i_check_right (.cons (.loc 0) (.cons (.loc 1) (.cons (.loc 2) .nil)))))
    (.cons (.ret (.call i_lowest_of (.cons (.call i_number_right (.cons (.loc 0) (.cons (.bi false .len (.cons (.loc 1) .nil)) (.cons (.loc 2) .nil)))) (.cons (.call i_number_of_draws (.cons (.loc 0) .nil)) .nil))))
    .nil))⟩
def g_chance_at_least_e0 (i_number_right i_check_right i_lowest_of i_number_of_draws : Nat) : E := (.call i_number_right (.cons (.loc 0) (.cons (.bi false .len (.cons (.loc 1) .nil)) (.cons (.loc 4) .nil))))
def g_chance_at_least_q0 (i_number_right i_check_right i_lowest_of i_number_of_draws : Nat) : EL := (.cons (.cmp .ge (.loc 4) (.loc 2)) .nil)
def g_chance_at_least (i_number_right i_check_right i_lowest_of i_number_of_draws : Nat) : Def := ⟨5, 3, false,
    (.cons (.exp (.call i_check_right (.cons (.loc 0) (.cons (.loc 1) (.cons (.loc 2) .nil)))))
    (.cons (.asg (.nm 3) (.lc false [((Str.ofString "many"), 4)] (g_chance_at_least_e0 i_number_right i_check_right i_lowest_of i_number_of_draws) (.nm 4) (.rng1 (.bin false .add (.bi false .len (.cons (.loc 1) .nil)) (.cst (.int 1)))) (g_chance_at_least_q0 i_number_right i_check_right i_lowest_of i_number_of_draws)))
    (.cons (.ret (.call i_lowest_of (.cons (.bi false .sum (.cons (.loc 3) .nil)) (.cons (.call i_number_of_draws (.cons (.loc 0) .nil)) .nil))))
    .nil)))⟩
def g_mean_right (i_check_lottery i_check_ticket i_lowest_of : Nat) : Def := ⟨2, 2, false,
    (.cons (.exp (.call i_check_lottery (.cons (.loc 0) .nil)))
    (.cons (.exp (.call i_check_ticket (.cons (.loc 0) (.cons (.loc 1) .nil))))
    (.cons (.ret (.call i_lowest_of (.cons (.bin false .mul (.ix (.loc 0) (.cst (.int 2))) (.bi false .len (.cons (.loc 1) .nil))) (.cons (.ix (.loc 0) (.cst (.int 1))) .nil))))
    .nil)))⟩
def g_likeliest_e0 (i_number_right i_check_lottery i_check_ticket : Nat) : E := (.loc 3)
def g_likeliest_q0 (i_number_right i_check_lottery i_check_ticket : Nat) : EL := (.cons (.cmp .eq (.loc 4) (.bi false .max (.cons (.loc 2) .nil))) .nil)
def g_likeliest_e1 (i_number_right i_check_lottery i_check_ticket : Nat) : E := (.call i_number_right (.cons (.loc 0) (.cons (.bi false .len (.cons (.loc 1) .nil)) (.cons (.loc 3) .nil))))
def g_likeliest (i_number_right i_check_lottery i_check_ticket : Nat) : Def := ⟨5, 2, false,
    (.cons (.exp (.call i_check_lottery (.cons (.loc 0) .nil)))
    (.cons (.exp (.call i_check_ticket (.cons (.loc 0) (.cons (.loc 1) .nil))))
    (.cons (.asg (.nm 2) (.lc false [((Str.ofString "many"), 3)] (g_likeliest_e1 i_number_right i_check_lottery i_check_ticket) (.nm 3) (.rng1 (.bin false .add (.bi false .len (.cons (.loc 1) .nil)) (.cst (.int 1)))) .nil))
    (.cons (.ret (.lc false [((Str.ofString "many"), 3), ((Str.ofString "number"), 4)] (g_likeliest_e0 i_number_right i_check_lottery i_check_ticket) (.tp (.cons (.nm 3) (.cons (.nm 4) .nil))) (.enum (.loc 2)) (g_likeliest_q0 i_number_right i_check_lottery i_check_ticket)))
    .nil))))⟩
def g_chance_and_more (i_check_right i_number_right i_lowest_of i_number_of_draws : Nat) : Def := ⟨5, 3, false,
    (.cons (.exp (.call i_check_right (.cons (.loc 0) (.cons (.loc 1) (.cons (.loc 2) .nil)))))
    (.cons (.ifs (.cmp .eq (.ix (.loc 0) (.cst (.int 1))) (.ix (.loc 0) (.cst (.int 2)))) (.cons (.raise 8 (.cons (.loc 0) .nil))
    .nil) .nil)
    (.cons (.asg (.nm 3) (.bi false .max (.cons (.cst (.int 0)) (.cons (.bin false .sub (.bi false .len (.cons (.loc 1) .nil)) (.loc 2)) .nil))))
    (.cons (.asg (.nm 4) (.bin false .mul (.call i_number_right (.cons (.loc 0) (.cons (.bi false .len (.cons (.loc 1) .nil)) (.cons (.loc 2) .nil)))) (.loc 3)))
    (.cons (.ret (.call i_lowest_of (.cons (.loc 4) (.cons (.bin false .mul (.call i_number_of_draws (.cons (.loc 0) .nil)) (.bin false .sub (.ix (.loc 0) (.cst (.int 1))) (.ix (.loc 0) (.cst (.int 2))))) .nil))))
    .nil)))))⟩
def g_number_both_b0 (i_choose i_both_have : Nat) : B := (.cons (.asg (.nm 11) (.bin false .add (.bin false .sub (.bin false .sub (.ix (.loc 0) (.cst (.int 2))) (.loc 3)) (.loc 4)) (.loc 7)))
    (.cons (.asg (.nm 12) (.bin false .mul (.bin false .mul (.call i_choose (.cons (.loc 5) (.cons (.loc 7) .nil))) (.call i_choose (.cons (.loc 8) (.cons (.bin false .sub (.loc 3) (.loc 7)) .nil)))) (.call i_choose (.cons (.loc 9) (.cons (.bin false .sub (.loc 4) (.loc 7)) .nil)))))
    (.cons (.asg (.nm 10) (.bin false .add (.loc 10) (.bin false .mul (.loc 12) (.call i_choose (.cons (.loc 6) (.cons (.loc 11) .nil))))))
    .nil)))
def g_number_both (i_choose i_both_have : Nat) : Def := ⟨13, 5, false,
    (.cons (.asg (.nm 5) (.bi false .len (.cons (.call i_both_have (.cons (.loc 1) (.cons (.loc 2) .nil))) .nil)))
    (.cons (.par [8, 9, 10] (.cons (.bin false .sub (.bi false .len (.cons (.loc 1) .nil)) (.loc 5)) (.cons (.bin false .sub (.bi false .len (.cons (.loc 2) .nil)) (.loc 5)) (.cons (.cst (.int 0)) .nil))))
    (.cons (.asg (.nm 6) (.bin false .sub (.bin false .sub (.bin false .sub (.ix (.loc 0) (.cst (.int 1))) (.loc 5)) (.loc 8)) (.loc 9)))
    (.cons (.for_ (.nm 7) (.rng1 (.bin false .add (.bi false .min (.cons (.loc 5) (.cons (.loc 3) (.cons (.loc 4) .nil)))) (.cst (.int 1)))) (g_number_both_b0 i_choose i_both_have))
    (.cons (.ret (.loc 10))
    .nil)))))⟩
def g_check_pair (i_check_lottery i_check_ticket i_check_number : Nat) : Def := ⟨5, 5, false,
    (.cons (.exp (.call i_check_lottery (.cons (.loc 0) .nil)))
    (.cons (.exp (.call i_check_ticket (.cons (.loc 0) (.cons (.loc 1) .nil))))
    (.cons (.exp (.call i_check_ticket (.cons (.loc 0) (.cons (.loc 2) .nil))))
    (.cons (.exp (.call i_check_number (.cons (.loc 3) .nil)))
    (.cons (.exp (.call i_check_number (.cons (.loc 4) .nil)))
    .nil)))))⟩
def g_draws_with_both (i_check_pair i_number_both : Nat) : Def := ⟨5, 5, false,
    (.cons (.exp (.call i_check_pair (.cons (.loc 0) (.cons (.loc 1) (.cons (.loc 2) (.cons (.loc 3) (.cons (.loc 4) .nil)))))))
    (.cons (.ret (.call i_number_both (.cons (.loc 0) (.cons (.loc 1) (.cons (.loc 2) (.cons (.loc 3) (.cons (.loc 4) .nil)))))))
    .nil))⟩
def g_chance_both (i_check_pair i_lowest_of i_number_both i_number_of_draws : Nat) : Def := ⟨5, 5, false,
    (.cons (.exp (.call i_check_pair (.cons (.loc 0) (.cons (.loc 1) (.cons (.loc 2) (.cons (.loc 3) (.cons (.loc 4) .nil)))))))
    (.cons (.ret (.call i_lowest_of (.cons (.call i_number_both (.cons (.loc 0) (.cons (.loc 1) (.cons (.loc 2) (.cons (.loc 3) (.cons (.loc 4) .nil)))))) (.cons (.call i_number_of_draws (.cons (.loc 0) .nil)) .nil))))
    .nil))⟩
def g_right_ones (i_check_lottery i_check_ticket i_check_draw i_both_have : Nat) : Def := ⟨3, 3, false,
    (.cons (.exp (.call i_check_lottery (.cons (.loc 0) .nil)))
    (.cons (.exp (.call i_check_ticket (.cons (.loc 0) (.cons (.loc 1) .nil))))
    (.cons (.exp (.call i_check_draw (.cons (.loc 0) (.cons (.loc 2) .nil))))
    (.cons (.ret (.call i_both_have (.cons (.loc 1) (.cons (.loc 2) .nil))))
    .nil))))⟩
def g_law_ways (i_law_choose : Nat) : Def := ⟨3, 3, false,
    (.cons (.ret (.bin false .mul (.call i_law_choose (.cons (.loc 1) (.cons (.loc 2) .nil))) (.call i_law_choose (.cons (.bin false .sub (.ix (.loc 0) (.cst (.int 1))) (.loc 1)) (.cons (.bin false .sub (.ix (.loc 0) (.cst (.int 2))) (.loc 2)) .nil)))))
    .nil)⟩
def g_law_pair_ways_b0 (i_law_choose i_law_both : Nat) : B := (.cons (.asg (.nm 8) (.bin false .add (.bin false .sub (.bin false .sub (.ix (.loc 0) (.cst (.int 2))) (.loc 3)) (.loc 4)) (.loc 5)))
    (.cons (.asg (.nm 9) (.bin false .mul (.bin false .mul (.call i_law_choose (.cons (.loc 6) (.cons (.loc 5) .nil))) (.call i_law_choose (.cons (.bin false .sub (.bi false .len (.cons (.loc 1) .nil)) (.loc 6)) (.cons (.bin false .sub (.loc 3) (.loc 5)) .nil)))) (.call i_law_choose (.cons (.bin false .sub (.bi false .len (.cons (.loc 2) .nil)) (.loc 6)) (.cons (.bin false .sub (.loc 4) (.loc 5)) .nil)))))
    (.cons (.asg (.nm 7) (.bin false .add (.loc 7) (.bin false .mul (.loc 9) (.call i_law_choose (.cons (.bin false .add (.bin false .sub (.bin false .sub (.ix (.loc 0) (.cst (.int 1))) (.bi false .len (.cons (.loc 1) .nil))) (.bi false .len (.cons (.loc 2) .nil))) (.loc 6)) (.cons (.loc 8) .nil))))))
    .nil)))
def g_law_pair_ways (i_law_choose i_law_both : Nat) : Def := ⟨10, 5, false,
    (.cons (.par [6, 7] (.cons (.bi false .len (.cons (.call i_law_both (.cons (.loc 1) (.cons (.loc 2) .nil))) .nil)) (.cons (.cst (.int 0)) .nil)))
    (.cons (.for_ (.nm 5) (.rng1 (.bin false .add (.bi false .min (.cons (.loc 6) (.cons (.loc 3) (.cons (.loc 4) .nil)))) (.cst (.int 1)))) (g_law_pair_ways_b0 i_law_choose i_law_both))
    (.cons (.ret (.loc 7))
    .nil)))⟩
def nr (b k s r : Int) : Int := ch s r * ch (b - s) (k - r)
theorem ch_abs {n : Int} (h : n ≤ 2000) (k : Int) : (ch n k).natAbs < 2 ^ 2001 := by
  have h1 := ch_le (m := 2000) (n := n) (by omega) k
  have h2 := ch_nonneg n k
  have h3 : (2 : Int) ^ 2000 = ((2 ^ 2000 : Nat) : Int) := by norm_cast
  have h4 : (2 : Nat) ^ 2000 < 2 ^ 2001 := Nat.pow_lt_pow_right (by decide) (by decide)
  omega
theorem nr_abs {b k s r : Int} (h1 : s ≤ 2000) (h2 : b - s ≤ 2000) : (nr b k s r).natAbs < 2 ^ 4002 := natAbs_mul_lt (ch_abs h1 r) (ch_abs h2 (k - r))
theorem nr_nonneg (b k s r : Int) : 0 ≤ nr b k s r := Int.mul_nonneg (ch_nonneg ..) (ch_nonneg ..)
theorem nr_gt {b k s r : Int} (h : s < r) : nr b k s r = 0 := by unfold nr; rw [ch_gt h, Int.zero_mul]
/-- the functions that all of rights rests on, and where they stand -/
structure Rts0 (P : List Def) where
  lo : Nat
  tk : Nat
  nu : Nat
  dr : Nat
  c : Nat
  nd : Nat
  low : Nat
  bo : Nat
  hlo : LotAt P lo 3
  htk : TktAt P tk 4
  hnu : NumAt P nu 3
  hdr : DrwAt P dr 4
  hc : ChAt P c
  hnd : P[nd]? = some (gNumDraws c)
  hlow : LowAt P low 2
  hbo : P[bo]? = some gBoth
structure Rts (P : List Def) extends Rts0 P where
  cr : Nat
  nri : Nat
  hcr : P[cr]? = some (g_check_right lo tk nu)
  hnr : P[nri]? = some (g_number_right c)
/-- a lottery, a ticket of it -/
structure TkOk (b k : Int) (ns : List Int) : Prop where
  k1 : 1 ≤ k
  kb : k ≤ b
  b2 : b ≤ 2000
  cho : Cho b ns
  ne : ns ≠ []
theorem TkOk.len {b k : Int} {ns : List Int} (h : TkOk b k ns) : (ns.length : Int) ≤ b ∧ ns.length ≤ 2000 := by
  have := cho_len h.cho
  have := h.k1; have := h.kb; have := h.b2
  omega
section
variable {P : List Def} (R : Rts P) (F : Nat)
theorem number_right_ok {n : Nat} (hn : 2 ≤ n) {b k : Int} {s r : Int} (h1 : s ≤ 2000) (h2 : b - s ≤ 2000) (S : Store) : LH.call P F n R.nri [lot b k, .int s, .int r] S = .ok (.int (nr b k s r)) S := by
  obtain ⟨n, rfl⟩ : ∃ m, n = m + 2 := ⟨n - 2, by omega⟩
  refine call_ret R.hnr rfl ?_ (.inr rfl)
  have e1 := R.hc.ok F n s r S h1
  have e2 := R.hc.ok F n (b - s) (k - r) S h2
  have s1 := small_pow (ch_abs h1 r) (by decide)
  have s2 := small_pow (ch_abs h2 (k - r)) (by decide)
  unfold nr
  generalize ch s r = x at *
  generalize ch (b - s) (k - r) = y at *
  unfold lot
  simp [g_number_right, startE, e1, e2, s1, s2]
theorem check_right_ok {n : Nat} (hn : 5 ≤ n) {b k : Int} {ns : List Int} (h : TkOk b k ns) {r : Int} (hr : 0 ≤ r) (S : Store) : LH.call P F n R.cr [lot b k, .lst (ns.map .int), .int r] S = .ok .non S := by
  obtain ⟨n, rfl⟩ : ∃ m, n = m + 5 := ⟨n - 5, by omega⟩
  have e1 := R.hlo.ok F (n + 4) b k S (by omega) h.k1 h.kb
  have e2 := R.htk.ok F (n + 4) b k ns S (by omega) h.cho h.ne (by have := h.len; omega)
  have e3 := R.hnu.ok F (n + 4) r S (by omega) hr
  generalize ns.map D.int = xs at *
  refine call_nx (ρ := [some (lot b k), some (.lst xs), some (.int r)]) R.hcr rfl ?_ rfl
  simp [g_check_right, startE, e1, e2, e3]
theorem draws_with_ok {i : Nat} (hi : P[i]? = some (g_draws_with R.cr R.nri)) {n : Nat} (hn : 5 ≤ n) {b k : Int} {ns : List Int} (h : TkOk b k ns) {r : Int} (hr : 0 ≤ r) (S : Store) : LH.call P F (n + 1) i [lot b k, .lst (ns.map .int), .int r] S = .ok (.int (nr b k ns.length r)) S := by
  have e1 := check_right_ok R F hn h hr S
  have hl := h.len
  have hb := h.b2
  have e2 := number_right_ok R F (n := n) (by omega) (b := b) (k := k) (s := ns.length) (r := r) (by omega) (by omega) S
  refine call_ret hi rfl ?_ (.inr rfl)
  have hll : ((ns.map D.int).length : Int) = (ns.length : Int) := by simp
  generalize ns.map D.int = xs at *
  simp [g_draws_with, startE, e1, hll, e2]
theorem chance_right_ok {i : Nat} (hF : 20000 ≤ F) (hi : P[i]? = some (g_chance_right R.cr R.low R.nri R.nd)) {n : Nat} (hn : 5 ≤ n) {b k : Int} {ns : List Int} (h : TkOk b k ns) {r : Int} (hr : 0 ≤ r) (S : Store) : LH.call P F (n + 1) i [lot b k, .lst (ns.map .int), .int r] S = .ok (fr (nr b k ns.length r) (ch b k)) S := by
  have e1 := check_right_ok R F hn h hr S
  have hl := h.len
  have hb := h.b2
  have e2 := number_right_ok R F (n := n) (by omega) (b := b) (k := k) (s := ns.length) (r := r) (by omega) (by omega) S
  obtain ⟨m, rfl⟩ : ∃ m, n = m + 2 := ⟨n - 2, by omega⟩
  have e3 := num_draws_ok R.hc R.hnd F m (b := b) (k := k) hb S
  have e4 := R.hlow.ok F (m + 2) (nr b k ns.length r) (ch b k) S (by omega) hF (ch_pos (by have := h.k1; omega) h.kb) (pow_up (nr_abs (by omega) (by omega)) (by decide)) (pow_up (ch_abs hb k) (by decide))
  refine call_ret hi rfl ?_ (.inr rfl)
  have hll : ((ns.map D.int).length : Int) = (ns.length : Int) := by simp
  generalize ns.map D.int = xs at *
  generalize fr (nr b k ns.length r) (ch b k) = z at *
  generalize nr b k ns.length r = u at *
  generalize ch b k = v at *
  simp [g_chance_right, startE, e1, hll, e2, e3, e4]
theorem mean_right_ok {i : Nat} (hF : 20000 ≤ F) (hi : P[i]? = some (g_mean_right R.lo R.tk R.low)) {n : Nat} (hn : 5 ≤ n) {b k : Int} {ns : List Int} (h : TkOk b k ns) (S : Store) : LH.call P F (n + 1) i [lot b k, .lst (ns.map .int)] S = .ok (fr (k * ns.length) b) S := by
  have hl := h.len
  have hb := h.b2
  have hk1 := h.k1
  have hkb := h.kb
  have e1 := R.hlo.ok F n b k S (by omega) h.k1 h.kb
  have e2 := R.htk.ok F n b k ns S (by omega) h.cho h.ne (by omega)
  have sk : smallI k = true := small64 (by omega)
  have sl : smallI (ns.length : Int) = true := small64 (by omega)
  have e4 := R.hlow.ok F n (k * ns.length) b S (by omega) hF (by omega) (pow_up (natAbs_mul_lt (j := 11) (k := 11) (by omega) (by omega)) (by decide)) (pow_up (k := 11) (by omega) (by decide))
  refine call_ret hi rfl ?_ (.inr rfl)
  have hll : ((ns.map D.int).length : Int) = (ns.length : Int) := by simp
  generalize fr (k * ns.length) b = z at *
  generalize ns.map D.int = xs at *
  generalize (ns.length : Int) = s at *
  unfold lot at *
  simp [g_mean_right, startE, e1, hll, e2, sk, sl, e4]
/-! sums over lists of numbers -/
def sumF (f : Nat → Int) (l : List Nat) : Int := (l.map f).sum
theorem sumF_app (f : Nat → Int) (l m : List Nat) : sumF f (l ++ m) = sumF f l + sumF f m := by
  unfold sumF; rw [List.map_append, List.sum_append]
theorem sumF_range (f : Nat → Int) : ∀ n, sumF f (List.range n) = sm n f
  | 0 => rfl
  | n + 1 => by rw [List.range_succ, sumF_app, sumF_range f n]; simp [sumF, sm]
theorem range_from (t : Nat) : ∀ N : Nat, (List.range N).filter (fun j => decide (t ≤ j)) = (List.range N).drop t
  | 0 => by simp
  | N + 1 => by
    rw [List.range_succ, List.filter_append, range_from t N, List.drop_append, List.length_range]
    congr 1
    by_cases h : t ≤ N
    · rw [show t - N = 0 by omega]; simp [h]
    · rw [List.drop_of_length_le (by simp; omega)]; simp [h]
theorem sum_ints (m : Bool) (is : List Int) (S : Store) : biD m .sum [.lst (is.map .int)] S = .ok (.int is.sum) S := by
  show biSum m [.lst (is.map .int)] S = _
  unfold biSum
  simp only [l_lst, Option.bind_some, intsD_mapC]
theorem sumF_drop_le {f : Nat → Int} (h : ∀ i, 0 ≤ f i) (N t : Nat) : 0 ≤ sumF f ((List.range N).drop t) ∧ sumF f ((List.range N).drop t) ≤ sm N f := by
  rw [← sumF_range f N]
  have h0 : ∀ l : List Nat, 0 ≤ sumF f l := by
    intro l
    induction l with
    | nil => exact Int.le_refl _
    | cons x l ih => have := h x; show 0 ≤ (f x :: l.map f).sum; rw [List.sum_cons]; unfold sumF at ih; omega
  refine ⟨h0 _, ?_⟩
  have e : (List.range N) = (List.range N).take t ++ (List.range N).drop t := (List.take_append_drop ..).symm
  have e2 : sumF f (List.range N) = sumF f ((List.range N).take t) + sumF f ((List.range N).drop t) := by
    rw [← sumF_app, List.take_append_drop]
  have := h0 ((List.range N).take t)
  omega
theorem nr_sum {b k : Int} {s : Nat} (h2 : (s : Int) ≤ b) : sm (s + 1) (fun r => nr b k s r) = ch b k := by
  have := vander s (m := b - s) (by omega) k
  rw [show (s : Int) + (b - s) = b by omega] at this
  exact this
/-- at least so many: how many draws -/
def nrl (b k : Int) (s t : Nat) : Int := sumF (fun r => nr b k s r) ((List.range (s + 1)).drop t)
theorem nrl_le {b k : Int} {s : Nat} (h2 : (s : Int) ≤ b) (t : Nat) : 0 ≤ nrl b k s t ∧ nrl b k s t ≤ ch b k := by
  have := sumF_drop_le (f := fun r => nr b k s r) (fun _ => nr_nonneg ..) (s + 1) t
  rw [nr_sum h2] at this
  exact this
theorem chance_at_least_ok {i : Nat} (hF : 20000 ≤ F) (hi : P[i]? = some (g_chance_at_least R.nri R.cr R.low R.nd)) {n : Nat} (hn : 5 ≤ n) {b k : Int} {ns : List Int} (h : TkOk b k ns) (t : Nat) (S : Store) : LH.call P F (n + 1) i [lot b k, .lst (ns.map .int), .int t] S = .ok (fr (nrl b k ns.length t) (ch b k)) S := by
  have hl := h.len
  have hb := h.b2
  have e1 := check_right_ok R F hn h (r := t) (by omega) S
  have hll : ((ns.map D.int).length : Int) = (ns.length : Int) := by simp
  have hrun : lcRun (.fix (rngD 0 ((ns.length : Int) + 1))) (lcBody (.nm 4) [4] (semC (LH.call P F n) (g_chance_at_least_q0 R.nri R.cr R.low R.nd)) (semE (LH.call P F n) (g_chance_at_least_e0 R.nri R.cr R.low R.nd)) [some (lot b k), some (.lst (ns.map .int)), some (.int t), none, none]) (rngD 0 ((ns.length : Int) + 1)) 0 S = .ok (((List.range (ns.length + 1)).filter fun j => decide (t ≤ j)).map fun (j : Nat) => .int (nr b k ns.length j)) S := by
    have er : rngD 0 ((ns.length : Int) + 1) = (List.range (ns.length + 1)).map fun (j : Nat) => D.int (j : Int) := by
      unfold rngD
      rw [show ((ns.length : Int) + 1 - 0).toNat = ns.length + 1 by omega]
      refine List.map_congr_left fun x _ => ?_
      simp
    have key := lc_sel (ys := rngD 0 ((ns.length : Int) + 1)) (S := S) (body := lcBody (.nm 4) [4] (semC (LH.call P F n) (g_chance_at_least_q0 R.nri R.cr R.low R.nd)) (semE (LH.call P F n) (g_chance_at_least_e0 R.nri R.cr R.low R.nd)) [some (lot b k), some (.lst (ns.map .int)), some (.int t), none, none]) (fun (j : Nat) => D.int (j : Int)) (fun (j : Nat) => D.int (nr b k ns.length j)) (fun j => decide (t ≤ j)) (List.range (ns.length + 1)) 0 (fun j hj => by
      have e2 := number_right_ok R F (n := n) (by omega) (b := b) (k := k) (s := ns.length) (r := j) (by omega) (by omega) S
      generalize ns.map D.int = xs at *
      generalize nr b k ns.length j = v at *
      by_cases hc : t ≤ j
      · have hc' : (t : Int) ≤ (j : Int) := by omega
        simp [lcBody, asgG, wipeE, g_chance_at_least_q0, g_chance_at_least_e0, hc, hll, e2]
      · have hc' : ¬ (t : Int) ≤ (j : Int) := by omega
        simp [lcBody, asgG, wipeE, g_chance_at_least_q0, g_chance_at_least_e0, hc])
    rw [er]
    rw [er] at key
    exact key
  have hsum : biD false .sum [.lst (((List.range (ns.length + 1)).filter fun j => decide (t ≤ j)).map fun (j : Nat) => D.int (nr b k ns.length j))] S = .ok (.int (nrl b k ns.length t)) S := by
    have := sum_ints false (((List.range (ns.length + 1)).filter fun j => decide (t ≤ j)).map fun (j : Nat) => nr b k ns.length j) S
    rw [List.map_map] at this
    rw [range_from] at this ⊢
    exact this
  have hmk := mkL_f S (((List.range (ns.length + 1)).filter fun j => decide (t ≤ j)).map fun (j : Nat) => D.int (nr b k ns.length j)) (by
    have := List.length_filter_le (fun j => decide (t ≤ j)) (List.range (ns.length + 1))
    rw [List.length_range] at this
    rw [List.length_map]
    show _ ≤ 16000000
    omega)
  obtain ⟨m, rfl⟩ : ∃ m, n = m + 2 := ⟨n - 2, by omega⟩
  have e3 := num_draws_ok R.hc R.hnd F m (b := b) (k := k) hb S
  have hle := nrl_le (b := b) (k := k) (s := ns.length) (by omega) t
  have hca := ch_abs hb k
  have e4 := R.hlow.ok F (m + 2) (nrl b k ns.length t) (ch b k) S (by omega) hF (ch_pos (by have := h.k1; omega) h.kb) (pow_up (k := 2001) (by omega) (by decide)) (pow_up hca (by decide))
  refine call_ret hi rfl ?_ (.inr rfl)
  have ok : okR ((ns.length : Int) + 1) = true := decide_eq_true ⟨by omega, by omega⟩
  generalize fr (nrl b k ns.length t) (ch b k) = z at *
  generalize nrl b k ns.length t = u at *
  generalize ch b k = v at *
  generalize (((List.range (ns.length + 1)).filter fun j => decide (t ≤ j)).map fun (j : Nat) => D.int (nr b k ns.length j)) = ys at *
  generalize ns.map D.int = xs at *
  simp [g_chance_at_least, startE, asg_nm, e1, hll, ok, hrun, hmk, hsum, e3, e4]
end
end LH

section
set_option exponentiation.threshold 20000
namespace LH
open PySem hiding call truthy
open PySem.W L2 PySem.Spec PyProof.Rows
def maxL : List Int → Int
  | [] => 0
  | x :: r => maxI x r
theorem max_ints (m : Bool) {is : List Int} (h : is ≠ []) (S : Store) : biD m .max [.lst (is.map .int)] S = .ok (.int (maxL is)) S := by
  cases is with
  | nil => exact absurd rfl h
  | cons x r =>
    show biMax [.lst ((x :: r).map .int)] S = _
    have : biMax [.lst ((x :: r).map .int)] S = (match (lstD S (.lst ((x :: r).map .int))).bind intsD with
      | some (i :: r) => .ok (.int (maxI i r)) S
      | _ => .no) := rfl
    rw [this]
    simp only [l_lst, Option.bind_some, intsD_mapC]
    rfl
theorem maxI_app (y : Int) : ∀ (r : List Int) (x : Int), maxI x (r ++ [y]) = if y > maxI x r then y else maxI x r
  | [], x => rfl
  | z :: r, x => by
    show maxI (if z > x then z else x) (r ++ [y]) = _
    rw [maxI_app y r]
    rfl
theorem maxI_ge : ∀ (r : List Int) (x : Int), x ≤ maxI x r
  | [], x => Int.le_refl _
  | z :: r, x => by
    show x ≤ maxI (if z > x then z else x) r
    have := maxI_ge r (if z > x then z else x)
    split at this
    · rename_i h; rw [if_pos h]; omega
    · rename_i h; rw [if_neg h]; omega
theorem maxL_app {is : List Int} (h : is ≠ []) (h0 : ∀ x ∈ is, 0 ≤ x) : maxL (is ++ [0]) = maxL is := by
  cases is with
  | nil => exact absurd rfl h
  | cons x r =>
    show maxI x (r ++ [0]) = maxI x r
    have h1 := maxI_ge r x
    have h2 := h0 x List.mem_cons_self
    rw [maxI_app, if_neg (by omega)]
theorem enum_map {α : Type} (f : Nat → D) (N : Nat) : enumD ((List.range N).map f) = (List.range N).map fun (j : Nat) => .tup [.int (j : Int), f j] := by
  unfold enumD
  refine List.ext_getElem (by simp) fun i h1 h2 => ?_
  simp
theorem rng0_map (N : Nat) (z : Int) (hz : z = (N : Int)) : rngD 0 z = (List.range N).map fun (j : Nat) => D.int (j : Int) := by
  subst hz
  unfold rngD
  rw [show ((N : Int) - 0).toNat = N by omega]
  exact List.map_congr_left fun x _ => by simp
section
variable {P : List Def} (R : Rts P) (F : Nat)
/-- the likeliest numbers -/
def lks (b k : Int) (s : Nat) : List Nat := (List.range (s + 1)).filter fun j => decide (nr b k s j = maxL ((List.range (s + 1)).map fun (j : Nat) => nr b k s j))
theorem likeliest_ok {i : Nat} (hi : P[i]? = some (g_likeliest R.nri R.lo R.tk)) {n : Nat} (hn : 5 ≤ n) {b k : Int} {ns : List Int} (h : TkOk b k ns) (S : Store) : LH.call P F (n + 1) i [lot b k, .lst (ns.map .int)] S = .ok (.lst ((lks b k ns.length).map fun (j : Nat) => .int (j : Int))) S := by
  have hl := h.len
  have hb := h.b2
  have e1 := R.hlo.ok F n b k S (by omega) h.k1 h.kb
  have e2 := R.htk.ok F n b k ns S (by omega) h.cho h.ne (by omega)
  have hll : ((ns.map D.int).length : Int) = (ns.length : Int) := by simp
  obtain ⟨s, hs⟩ : ∃ s, s = ns.length := ⟨_, rfl⟩
  rw [← hs] at hl hll ⊢
  have er : rngD 0 ((s : Int) + 1) = (List.range (s + 1)).map fun (j : Nat) => D.int (j : Int) := rng0_map _ _ (by omega)
  have r1 : lcRun (.fix (rngD 0 ((s : Int) + 1))) (lcBody (.nm 3) [3] (semC (LH.call P F n) .nil) (semE (LH.call P F n) (g_likeliest_e1 R.nri R.lo R.tk)) [some (lot b k), some (.lst (ns.map .int)), none, none, none]) (rngD 0 ((s : Int) + 1)) 0 S = .ok ((List.range (s + 1)).map fun (j : Nat) => .int (nr b k s j)) S := by
    rw [er]
    refine lc_map _ _ _ _ fun j hj => ?_
    have e2 := number_right_ok R F (n := n) (by omega) (b := b) (k := k) (s := s) (r := j) (by omega) (by omega) S
    generalize ns.map D.int = xs at *
    generalize nr b k s j = v at *
    simp [lcBody, asgG, wipeE, g_likeliest_e1, hll, e2]
  obtain ⟨M, hM⟩ : ∃ M, M = maxL ((List.range (s + 1)).map fun (j : Nat) => nr b k s j) := ⟨_, rfl⟩
  have hmax := max_ints false (is := (List.range (s + 1)).map fun (j : Nat) => nr b k s j) (by simp [List.range_succ]) S
  rw [← hM, List.map_map] at hmax
  have hmax : biD false .max [.lst ((List.range (s + 1)).map fun (j : Nat) => .int (nr b k s j))] S = .ok (.int M) S := hmax
  have r2 : lcRun (.fix (enumD ((List.range (s + 1)).map fun (j : Nat) => .int (nr b k s j)))) (lcBody (.tp (.cons (.nm 3) (.cons (.nm 4) .nil))) [3, 4] (semC (LH.call P F n) (g_likeliest_q0 R.nri R.lo R.tk)) (semE (LH.call P F n) (g_likeliest_e0 R.nri R.lo R.tk)) [some (lot b k), some (.lst (ns.map .int)), some (.lst ((List.range (s + 1)).map fun (j : Nat) => .int (nr b k s j))), none, none]) (enumD ((List.range (s + 1)).map fun (j : Nat) => .int (nr b k s j))) 0 S = .ok ((lks b k s).map fun (j : Nat) => .int (j : Int)) S := by
    unfold lks
    rw [enum_map (α := Nat) (fun (j : Nat) => .int (nr b k s j)), ← hM]
    refine lc_sel _ _ _ _ _ fun j hj => ?_
    generalize ((List.range (s + 1)).map fun (j : Nat) => D.int (nr b k s j)) = ds at *
    generalize ns.map D.int = xs at *
    generalize nr b k s j = v at *
    by_cases hc : v = M
    · subst hc
      simp [lcBody, asgG, asgL, wipeE, g_likeliest_q0, g_likeliest_e0, hmax]
    · simp [lcBody, asgG, asgL, wipeE, g_likeliest_q0, g_likeliest_e0, hmax, hc]
  have hmk := mkL_f S ((List.range (s + 1)).map fun (j : Nat) => D.int (nr b k s j)) (by simp; omega)
  have hmk2 := mkL_f S ((lks b k s).map fun (j : Nat) => D.int (j : Int)) (by
    have : (lks b k s).length ≤ (List.range (s + 1)).length := List.length_filter_le ..
    rw [List.length_range] at this
    rw [List.length_map]
    show _ ≤ 16000000
    omega)
  have hen : ∀ xs : List D, ((List.range xs.length).zip xs |>.map fun p => D.tup [.int (p.1 : Nat), p.2]) = enumD xs := fun _ => rfl
  refine call_ret hi rfl ?_ (.inr rfl)
  have ok : okR ((s : Int) + 1) = true := decide_eq_true ⟨by omega, by omega⟩
  generalize ((List.range (s + 1)).map fun (j : Nat) => D.int (nr b k s j)) = ds at *
  generalize ((lks b k s).map fun (j : Nat) => D.int (j : Int)) = rs at *
  generalize hE : enumD ds = en at r2
  generalize ns.map D.int = xs at *
  simp [g_likeliest, startE, asg_nm, e1, e2, hll, ok, r1, hmk, hen, hE, r2, hmk2]
def mx0 (z : Int) : Int := if z > 0 then z else 0
theorem chance_and_more_ok {i : Nat} (hF : 20000 ≤ F) (hi : P[i]? = some (g_chance_and_more R.cr R.nri R.low R.nd)) {n : Nat} (hn : 5 ≤ n) {b k : Int} {ns : List Int} (h : TkOk b k ns) (hkb : k < b) {r : Int} (hr : 0 ≤ r) (S : Store) : LH.call P F (n + 1) i [lot b k, .lst (ns.map .int), .int r] S = .ok (fr (nr b k ns.length r * mx0 (ns.length - r)) (ch b k * (b - k))) S := by
  have e1 := check_right_ok R F hn h hr S
  have hl := h.len
  have hb := h.b2
  have hk1 := h.k1
  have e2 := number_right_ok R F (n := n) (by omega) (b := b) (k := k) (s := ns.length) (r := r) (by omega) (by omega) S
  obtain ⟨m, rfl⟩ : ∃ m, n = m + 2 := ⟨n - 2, by omega⟩
  have e3 := num_draws_ok R.hc R.hnd F m (b := b) (k := k) hb S
  have hmx : 0 ≤ mx0 (ns.length - r) ∧ mx0 (ns.length - r) ≤ 2000 := by unfold mx0; split <;> omega
  have a1 := nr_abs (b := b) (k := k) (s := ns.length) (r := r) (by omega) (by omega)
  have a2 := ch_abs hb k
  have a3 : (mx0 (ns.length - r)).natAbs < 2 ^ 11 := by omega
  have a4 : (b - k).natAbs < 2 ^ 11 := by omega
  have cp := ch_pos (n := b) (k := k) (by omega) h.kb
  have e4 := R.hlow.ok F (m + 2) (nr b k ns.length r * mx0 (ns.length - r)) (ch b k * (b - k)) S (by omega) hF (Int.mul_pos cp (by omega)) (pow_up (natAbs_mul_lt a1 a3) (by decide)) (pow_up (natAbs_mul_lt a2 a4) (by decide))
  have s1 := small_pow a1 (by decide)
  have s2 := small_pow a2 (by decide)
  have s3 := small_pow a3 (by decide)
  have s4 := small_pow a4 (by decide)
  have hne : ¬ b = k := by omega
  have hmxe : biD false .max [.int 0, .int ((ns.length : Int) - r)] S = .ok (.int (mx0 (ns.length - r))) S := b_max2 _ _ _ _
  refine call_ret hi rfl ?_ (.inr rfl)
  have hll : ((ns.map D.int).length : Int) = (ns.length : Int) := by simp
  generalize fr (nr b k ns.length r * mx0 (ns.length - r)) (ch b k * (b - k)) = z at *
  generalize nr b k ns.length r = u at *
  generalize ch b k = v at *
  generalize mx0 (ns.length - r) = w at *
  generalize ns.map D.int = xs at *
  unfold lot at *
  simp [-b_max2, g_chance_and_more, startE, asg_nm, e1, hll, hne, hmxe, e2, s1, s2, s3, s4, e3, e4]
theorem right_ones_ok {i : Nat} (hi : P[i]? = some (g_right_ones R.lo R.tk R.dr R.bo)) {n : Nat} (hn : 5 ≤ n) {b k : Int} {ns ds : List Int} (h : TkOk b k ns) (hd : Cho b ds) (hk : (ds.length : Int) = k) (S : Store) : LH.call P F (n + 1) i [lot b k, .lst (ns.map .int), .lst (ds.map .int)] S = .ok (.lst ((bothI ns ds).map .int)) S := by
  have hl := h.len
  have hb := h.b2
  have hkb := h.kb
  obtain ⟨m, rfl⟩ : ∃ m, n = m + 1 := ⟨n - 1, by omega⟩
  have e1 := R.hlo.ok F (m + 1) b k S (by omega) h.k1 h.kb
  have e2 := R.htk.ok F (m + 1) b k ns S (by omega) h.cho h.ne (by omega)
  have e3 := R.hdr.ok F (m + 1) b k ds S (by omega) hd hk (by omega)
  have e4 := both_ok R.hbo F m (xs := ns) (ys := ds) (by omega) S
  refine call_ret hi rfl ?_ (.inr rfl)
  generalize ns.map D.int = xs at *
  generalize ds.map D.int = ys at *
  generalize (bothI ns ds).map D.int = zs at *
  simp [g_right_ones, startE, e1, e2, e3, e4]
end
end LH

end

section
set_option exponentiation.threshold 20000
namespace LH
open PySem hiding call truthy
open PySem.W L2 PySem.Spec PyProof.Rows
/-! ## two tickets -/
theorem both_len (xs ys : List Int) : (bothI xs ys).length ≤ xs.length := List.length_filter_le ..
theorem both_sym {xs ys : List Int} (hx : xs.Nodup) (hy : ys.Nodup) : (bothI xs ys).length = (bothI ys xs).length := by
  refine List.Perm.length_eq ((List.perm_ext_iff_of_nodup (hx.filter _) (hy.filter _)).mpr fun a => ?_)
  simp [bothI, List.mem_filter, and_comm]
theorem nodup_len {α : Type} [DecidableEq α] : ∀ {xs ys : List α}, xs.Nodup → (∀ x ∈ xs, x ∈ ys) → xs.length ≤ ys.length
  | [], _, _, _ => Nat.zero_le _
  | x :: xs, ys, h, hs => by
    rw [List.nodup_cons] at h
    have h1 : x ∈ ys := hs x List.mem_cons_self
    have h2 := nodup_len (xs := xs) (ys := ys.erase x) h.2 fun y hy => by
      have h3 := hs y (List.mem_cons_of_mem _ hy)
      refine (List.mem_erase_of_ne ?_).mpr h3
      intro e; subst e; exact h.1 hy
    rw [List.length_erase_of_mem h1] at h2
    have : 0 < ys.length := List.length_pos_of_mem h1
    rw [List.length_cons]
    omega
theorem Cho.nodup {b : Int} {ns : List Int} (h : Cho b ns) : ns.Nodup := h.asc.imp fun h => by omega
/-- how many both have, and all of both -/
theorem pair_len {b : Int} {xs ys : List Int} (hb : 0 ≤ b) (hx : Cho b xs) (hy : Cho b ys) : (bothI xs ys).length ≤ xs.length ∧ (bothI xs ys).length ≤ ys.length ∧ (xs.length : Int) + ys.length ≤ b + (bothI xs ys).length := by
  have h1 := both_len xs ys
  have h2 := both_len ys xs
  have h3 := both_sym hx.nodup hy.nodup
  refine ⟨h1, by omega, ?_⟩
  have h4 : (ys.filter fun y => !decide (y ∈ xs)).length + (bothI ys xs).length = ys.length := by
    unfold bothI
    clear h1 h2 h3 hy
    induction ys with
    | nil => rfl
    | cons y ys ih =>
      rw [List.filter_cons, List.filter_cons]
      by_cases hc : y ∈ xs
      · simp [hc]; omega
      · simp [hc]; omega
  have h5 : (xs ++ ys.filter fun y => !decide (y ∈ xs)).Nodup := by
    rw [List.nodup_append]
    refine ⟨hx.nodup, hy.nodup.filter _, fun a ha c hc e => ?_⟩
    subst e
    rw [List.mem_filter] at hc
    simp [ha] at hc
  have h6 : (xs ++ ys.filter fun y => !decide (y ∈ xs)).length ≤ ((List.range b.toNat).map fun (i : Nat) => 1 + (i : Int)).length := nodup_len h5 fun x hx' => by
    have hr : 1 ≤ x ∧ x ≤ b := by
      rcases List.mem_append.mp hx' with h | h
      · exact hx.ran x h
      · exact hy.ran x ((List.mem_filter.mp h).1)
    exact List.mem_map.mpr ⟨(x - 1).toNat, by rw [List.mem_range]; omega, by omega⟩
  rw [List.length_append, List.length_map, List.length_range] at h6
  omega
/-- how many draws have so many of both -/
def nbt (b k s o p first second : Int) (many : Nat) : Int := ch s many * ch (o - s) (first - many) * ch (p - s) (second - many) * ch (b - o - p + s) (k - first - second + many)
def nb (b k : Int) (s : Nat) (o p first second : Int) : Int := sm (s + 1) (nbt b k s o p first second)
theorem ch_abs1 {n : Int} (h : n ≤ 1000) (k : Int) : (ch n k).natAbs < 2 ^ 1001 := by
  have h1 := ch_le (m := 1000) (n := n) (by omega) k
  have h2 := ch_nonneg n k
  have h3 : (2 : Int) ^ 1000 = ((2 ^ 1000 : Nat) : Int) := by norm_cast
  have h4 : (2 : Nat) ^ 1000 < 2 ^ 1001 := Nat.pow_lt_pow_right (by decide) (by decide)
  omega
theorem nbt_nonneg (b k s o p first second : Int) (many : Nat) : 0 ≤ nbt b k s o p first second many := Int.mul_nonneg (Int.mul_nonneg (Int.mul_nonneg (ch_nonneg ..) (ch_nonneg ..)) (ch_nonneg ..)) (ch_nonneg ..)
theorem sm_bound {f : Nat → Int} {w : Nat} (h : ∀ i, (f i).natAbs < 2 ^ w) (h0 : ∀ i, 0 ≤ f i) : ∀ n : Nat, 0 ≤ sm n f ∧ sm n f ≤ n * 2 ^ w
  | 0 => by simp [sm]
  | n + 1 => by
    have ⟨h1, h2⟩ := sm_bound h h0 n
    have h3 := h n
    have h4 := h0 n
    have h5 : (2 : Int) ^ w = ((2 ^ w : Nat) : Int) := by norm_cast
    have e : ((n + 1 : Nat) : Int) * 2 ^ w = (n : Int) * 2 ^ w + 2 ^ w := by
      rw [show ((n + 1 : Nat) : Int) = (n : Int) + 1 by omega, Int.add_mul, Int.one_mul]
    rw [e]
    unfold sm
    rw [h5] at h2 ⊢
    omega
/-- two tickets of a lottery -/
structure Pr2 (b k : Int) (xs ys : List Int) : Prop where
  o : TkOk b k xs
  p : TkOk b k ys
  b1 : b ≤ 1000
section
variable {b k : Int} {xs ys : List Int} (h : Pr2 b k xs ys)
include h
theorem Pr2.lens : (bothI xs ys).length ≤ xs.length ∧ (bothI xs ys).length ≤ ys.length ∧ (xs.length : Int) + ys.length ≤ b + (bothI xs ys).length ∧ (xs.length : Int) ≤ b ∧ (ys.length : Int) ≤ b := by
  have h1 := h.o.k1
  have h2 := h.o.kb
  obtain ⟨a1, a2, a3⟩ := pair_len (b := b) (by omega) h.o.cho h.p.cho
  exact ⟨a1, a2, a3, h.o.len.1, h.p.len.1⟩
theorem Pr2.tb (first second : Int) (many : Nat) : (nbt b k (bothI xs ys).length xs.length ys.length first second many).natAbs < 2 ^ 4004 := by
  have := h.lens
  have := h.b1
  exact natAbs_mul_lt (natAbs_mul_lt (natAbs_mul_lt (ch_abs1 (by omega) _) (ch_abs1 (by omega) _)) (ch_abs1 (by omega) _)) (ch_abs1 (by omega) _)
theorem Pr2.nb_abs (first second : Int) : 0 ≤ nb b k (bothI xs ys).length xs.length ys.length first second ∧ (nb b k (bothI xs ys).length xs.length ys.length first second).natAbs < 2 ^ 4020 := by
  have hl := h.lens
  have hb := h.b1
  obtain ⟨h1, h2⟩ := sm_bound (w := 4004) (h.tb first second) (nbt_nonneg _ _ _ _ _ _ _) ((bothI xs ys).length + 1)
  refine ⟨h1, ?_⟩
  have h5 : (2 : Int) ^ 4004 = ((2 ^ 4004 : Nat) : Int) := by norm_cast
  have h6 : (2 : Nat) ^ 4020 = 2 ^ 4004 * 65536 := by decide +kernel
  have h7 : (((bothI xs ys).length + 1 : Nat) : Int) * ((2 ^ 4004 : Nat) : Int) ≤ 1001 * ((2 ^ 4004 : Nat) : Int) := Int.mul_le_mul_of_nonneg_right (by omega) (by omega)
  have h8 : 0 < (2 : Nat) ^ 4004 := Nat.two_pow_pos _
  rw [h5] at h2
  unfold nb
  rw [h6]
  generalize (2 : Nat) ^ 4004 = W at *
  omega
end
theorem nb_cut {b k : Int} {s : Nat} {o p first second : Int} (N : Nat) (h1 : ∀ m : Nat, N < m → m ≤ s → (first < m ∨ second < m)) (h2 : N ≤ s) : sm (N + 1) (nbt b k s o p first second) = nb b k s o p first second := by
  unfold nb
  refine (sm_ext (by omega) fun i h3 h4 => ?_).symm
  unfold nbt
  rcases h1 i (by omega) (by omega) with h | h
  · rw [ch_neg (n := o - s) (k := first - i) (by omega)]; simp
  · rw [ch_neg (n := p - s) (k := second - i) (by omega)]; simp
theorem min3_eq (a b c : Int) : min3 a b c ≤ a ∧ min3 a b c ≤ b ∧ min3 a b c ≤ c ∧ (min3 a b c = a ∨ min3 a b c = b ∨ min3 a b c = c) := by
  unfold min3
  split <;> split at * <;> omega
section
variable {P : List Def} (R : Rts0 P) (F : Nat)
theorem number_both_ok {i : Nat} (hi : P[i]? = some (g_number_both R.c R.bo)) {n : Nat} (hn : 2 ≤ n) {b k : Int} {xs ys : List Int} (h : Pr2 b k xs ys) (f g : Nat) (S : Store) : LH.call P F n i [lot b k, .lst (xs.map .int), .lst (ys.map .int), .int f, .int g] S = .ok (.int (nb b k (bothI xs ys).length xs.length ys.length f g)) S := by
  obtain ⟨n, rfl⟩ : ∃ m, n = m + 2 := ⟨n - 2, by omega⟩
  obtain ⟨l1, l2, l3, l4, l5⟩ := h.lens
  have hb := h.b1
  have htb := h.tb f g
  have e1 := both_ok R.hbo F n (xs := xs) (ys := ys) (by omega) S
  obtain ⟨s, hs⟩ : ∃ s, s = (bothI xs ys).length := ⟨_, rfl⟩
  have hsl : (((bothI xs ys).map D.int).length : Int) = (s : Int) := by rw [hs]; simp
  have hxl : ((xs.map D.int).length : Int) = (xs.length : Int) := by simp
  have hyl : ((ys.map D.int).length : Int) = (ys.length : Int) := by simp
  rw [← hs] at l1 l2 l3 htb ⊢
  obtain ⟨m1, m2, m3, m4⟩ := min3_eq (s : Int) f g
  obtain ⟨N, hN⟩ : ∃ N : Nat, min3 (s : Int) f g = N := ⟨(min3 (s : Int) f g).toNat, by omega⟩
  obtain ⟨ρ', S', e, rfl, q7, q11, q12, rfl⟩ := for_fix0 (g := .nm 7) (ys := rngD 0 ((N : Int) + 1)) (body := semB (LH.call P F (n + 1)) F (g_number_both_b0 R.c R.bo)) (fun j ρ S' => S' = S ∧ ∃ q7 q11 q12, ρ = [some (lot b k), some (.lst (xs.map .int)), some (.lst (ys.map .int)), some (.int f), some (.int g), some (.int s), some (.int (b - s - (xs.length - s) - (ys.length - s))), q7, some (.int (xs.length - s)), some (.int (ys.length - s)), some (.int (sm j (nbt b k s xs.length ys.length f g))), q11, q12]) (rngD 0 ((N : Int) + 1)) [some (lot b k), some (.lst (xs.map .int)), some (.lst (ys.map .int)), some (.int f), some (.int g), some (.int s), some (.int (b - s - (xs.length - s) - (ys.length - s))), none, some (.int (xs.length - s)), some (.int (ys.length - s)), some (.int 0), none, none] S ⟨rfl, none, none, none, rfl⟩ (by
    rintro j x ρ S' hx ⟨rfl, q7, q11, q12, rfl⟩
    obtain ⟨rfl, hj⟩ := rng_at hx
    have c1 := R.hc.ok F n s j S' (by omega)
    have c2 := R.hc.ok F n (xs.length - s) (f - j) S' (by omega)
    have c3 := R.hc.ok F n (ys.length - s) (g - j) S' (by omega)
    have c4 := R.hc.ok F n (b - s - (xs.length - s) - (ys.length - s)) (k - f - g + j) S' (by omega)
    have w1 := ch_abs1 (n := s) (by omega) j
    have w2 := ch_abs1 (n := xs.length - s) (by omega) (f - j)
    have w3 := ch_abs1 (n := ys.length - s) (by omega) (g - j)
    have w4 := ch_abs1 (n := b - s - (xs.length - s) - (ys.length - s)) (by omega) (k - f - g + j)
    have s1 := small_pow w1 (by decide)
    have s2 := small_pow w2 (by decide)
    have s3 := small_pow w3 (by decide)
    have s4 := small_pow w4 (by decide)
    have s12 := small_pow (natAbs_mul_lt w1 w2) (by decide)
    have s123 := small_pow (natAbs_mul_lt (natAbs_mul_lt w1 w2) w3) (by decide)
    have et : sm (j + 1) (nbt b k s xs.length ys.length f g) = sm j (nbt b k s xs.length ys.length f g) + ch s j * ch (xs.length - s) (f - j) * ch (ys.length - s) (g - j) * ch (b - s - (xs.length - s) - (ys.length - s)) (k - f - g + j) := by
      show _ + nbt b k s xs.length ys.length f g j = _
      unfold nbt
      rw [show b - (xs.length : Int) - ys.length + s = b - s - (xs.length - s) - (ys.length - s) by omega]
    refine ⟨_, _, S', rfl, .inl ?_, rfl, some (.int (j : Int)), some (.int (k - f - g + j)), some (.int (ch s j * ch (xs.length - s) (f - j) * ch (ys.length - s) (g - j))), rfl⟩
    rw [et]
    generalize sm j (nbt b k s xs.length ys.length f g) = acc at *
    generalize b - s - (xs.length - s) - (ys.length - s) = rest at *
    generalize (xs.length : Int) - s = mine at *
    generalize (ys.length : Int) - s = its at *
    generalize ch s j = x1 at *
    generalize ch mine (f - j) = x2 at *
    generalize ch its (g - j) = x3 at *
    generalize ch rest (k - f - g + j) = x4 at *
    generalize xs.map D.int = xd at *
    generalize ys.map D.int = yd at *
    generalize LH.call P F (n + 1) = cc at *
    unfold lot at *
    simp [g_number_both_b0, asg_nm, c1, c2, c3, c4, s1, s2, s3, s4, s12, s123])
  have hlen : (rngD 0 ((N : Int) + 1)).length = N + 1 := by rw [rng_len]; omega
  rw [hlen, nb_cut (b := b) (k := k) (s := s) (o := xs.length) (p := ys.length) (first := f) (second := g) N (fun m a1 a2 => by omega) (by omega)] at e
  refine call_ret hi rfl ?_ (.inr rfl)
  have ok : okR ((N : Int) + 1) = true := decide_eq_true ⟨by omega, by omega⟩
  have hmin : biD false .min [.int (s : Int), .int (f : Int), .int (g : Int)] S' = .ok (.int (N : Int)) S' := by rw [← hN]; rfl
  generalize nb b k s xs.length ys.length f g = v at *
  generalize xs.map D.int = xd at *
  generalize ys.map D.int = yd at *
  generalize (bothI xs ys).map D.int = sd at *
  generalize LH.call P F (n + 1) = cc at *
  unfold lot at *
  simp [g_number_both, startE, asgN, asg_nm, e1, hsl, hxl, hyl, hmin, ok, e]
theorem check_pair_ok {i : Nat} (hi : P[i]? = some (g_check_pair R.lo R.tk R.nu)) {n : Nat} (hn : 5 ≤ n) {b k : Int} {xs ys : List Int} (h : Pr2 b k xs ys) (f g : Nat) (S : Store) : LH.call P F n i [lot b k, .lst (xs.map .int), .lst (ys.map .int), .int f, .int g] S = .ok .non S := by
  obtain ⟨n, rfl⟩ : ∃ m, n = m + 5 := ⟨n - 5, by omega⟩
  have e1 := R.hlo.ok F (n + 4) b k S (by omega) h.o.k1 h.o.kb
  have e2 := R.htk.ok F (n + 4) b k xs S (by omega) h.o.cho h.o.ne (by have := h.o.len; omega)
  have e3 := R.htk.ok F (n + 4) b k ys S (by omega) h.p.cho h.p.ne (by have := h.p.len; omega)
  have e4 := R.hnu.ok F (n + 4) f S (by omega) (by omega)
  have e5 := R.hnu.ok F (n + 4) g S (by omega) (by omega)
  generalize xs.map D.int = xd at *
  generalize ys.map D.int = yd at *
  refine call_nx (ρ := [some (lot b k), some (.lst xd), some (.lst yd), some (.int f), some (.int g)]) hi rfl ?_ rfl
  simp [g_check_pair, startE, e1, e2, e3, e4, e5]
theorem draws_with_both_ok {cp nbi i : Nat} (hcp : P[cp]? = some (g_check_pair R.lo R.tk R.nu)) (hnb : P[nbi]? = some (g_number_both R.c R.bo)) (hi : P[i]? = some (g_draws_with_both cp nbi)) {n : Nat} (hn : 5 ≤ n) {b k : Int} {xs ys : List Int} (h : Pr2 b k xs ys) (f g : Nat) (S : Store) : LH.call P F (n + 1) i [lot b k, .lst (xs.map .int), .lst (ys.map .int), .int f, .int g] S = .ok (.int (nb b k (bothI xs ys).length xs.length ys.length f g)) S := by
  have e1 := check_pair_ok R F hcp hn h f g S
  have e2 := number_both_ok R F hnb (n := n) (by omega) h f g S
  refine call_ret hi rfl ?_ (.inr rfl)
  generalize xs.map D.int = xd at *
  generalize ys.map D.int = yd at *
  simp [g_draws_with_both, startE, e1, e2]
theorem chance_both_ok {cp nbi i : Nat} (hF : 20000 ≤ F) (hcp : P[cp]? = some (g_check_pair R.lo R.tk R.nu)) (hnb : P[nbi]? = some (g_number_both R.c R.bo)) (hi : P[i]? = some (g_chance_both cp R.low nbi R.nd)) {n : Nat} (hn : 5 ≤ n) {b k : Int} {xs ys : List Int} (h : Pr2 b k xs ys) (f g : Nat) (S : Store) : LH.call P F (n + 1) i [lot b k, .lst (xs.map .int), .lst (ys.map .int), .int f, .int g] S = .ok (fr (nb b k (bothI xs ys).length xs.length ys.length f g) (ch b k)) S := by
  have e1 := check_pair_ok R F hcp hn h f g S
  have e2 := number_both_ok R F hnb (n := n) (by omega) h f g S
  have hb := h.o.b2
  obtain ⟨m, rfl⟩ : ∃ m, n = m + 2 := ⟨n - 2, by omega⟩
  have e3 := num_draws_ok R.hc R.hnd F m (b := b) (k := k) hb S
  have e4 := R.hlow.ok F (m + 2) (nb b k (bothI xs ys).length xs.length ys.length f g) (ch b k) S (by omega) hF (ch_pos (by have := h.o.k1; omega) h.o.kb) (pow_up (h.nb_abs f g).2 (by decide)) (pow_up (ch_abs hb k) (by decide))
  refine call_ret hi rfl ?_ (.inr rfl)
  generalize fr (nb b k (bothI xs ys).length xs.length ys.length f g) (ch b k) = z at *
  generalize nb b k (bothI xs ys).length xs.length ys.length f g = u at *
  generalize ch b k = v at *
  generalize xs.map D.int = xd at *
  generalize ys.map D.int = yd at *
  simp [g_chance_both, startE, e1, e2, e3, e4]
end
/-- all second numbers of both come to the ways of the first -/
theorem nb_all {b k : Int} {s : Nat} {o p : Nat} (h1 : s ≤ o) (h2 : s ≤ p) (h3 : (o : Int) + p ≤ b + s) (f : Nat) : sm (p + 1) (fun g => nb b k s o p f g) = nr b k o f := by
  obtain ⟨mine, rfl⟩ : ∃ m, o = s + m := ⟨o - s, by omega⟩
  obtain ⟨its, rfl⟩ : ∃ m, p = s + m := ⟨p - s, by omega⟩
  have := pair_sum (s := s) (mine := mine) (its := its) (rest := b - ((s + mine : Nat) : Int) - ((s + its : Nat) : Int) + s) (by omega) k f
  unfold nr
  rw [show b - ((s + mine : Nat) : Int) = (its : Int) + (b - ((s + mine : Nat) : Int) - ((s + its : Nat) : Int) + s) by omega, show ((s + mine : Nat) : Int) = (s : Int) + mine by omega]
  rw [show ((s + mine : Nat) : Int) = (s : Int) + mine by omega] at this
  rw [← this]
  refine sm_congr fun g _ => ?_
  unfold nb
  refine sm_congr fun m _ => ?_
  unfold nbt
  rw [show (s : Int) + mine - s = (mine : Int) by omega, show ((s + its : Nat) : Int) - s = (its : Int) by omega]
end LH

end

section
set_option exponentiation.threshold 20000
namespace LH
open PySem hiding call truthy
open PySem.W L2 PySem.Spec PyProof.Rows
mutual
theorem eqD_refl : ∀ {k : Nat} {d : D}, d.plain k = true → eqD d d = true
  | k, .non, _ => by simp [eqD]
  | k, .bl _, _ => by simp [eqD]
  | k, .int _, _ => by simp [eqD]
  | k, .str _, _ => by simp [eqD]
  | k + 1, .lst xs, h => by simp only [D.plain] at h; simp only [eqD]; exact eqDL_refl h
  | k + 1, .tup xs, h => by simp only [D.plain] at h; simp only [eqD]; exact eqDL_refl h
  | 0, .lst _, h => by simp [D.plain] at h
  | 0, .tup _, h => by simp [D.plain] at h
  | k, .dct _ _ _, h => by cases k <;> simp [D.plain] at h
  | k, .ref _, h => by cases k <;> simp [D.plain] at h
  | k, .fn _, h => by cases k <;> simp [D.plain] at h
  | k, .exc _ _, h => by cases k <;> simp [D.plain] at h
  | k, .scr _, h => by cases k <;> simp [D.plain] at h
theorem eqDL_refl : ∀ {k : Nat} {xs : List D}, D.plainL k xs = true → eqDL xs xs = true
  | _, [], _ => by simp [eqDL]
  | k, x :: xs, h => by
    simp only [D.plainL, Bool.and_eq_true] at h
    simp only [eqDL, eqD_refl h.1, eqDL_refl h.2, Bool.and_self]
end
theorem cmp_self {S : Store} {d : D} (h : d.plain DEEP = true) : cmpD S .eq d d = some true ∧ cmpD S .ne d d = some false := by
  have e : cmpEq S d d = some true := by
    have h1 : rd S d = some d := rd_plain' h
    have h2 := eqD_refl h
    unfold cmpEq
    split
    · simp
    · simp
    · simp
    · rfl
    · rw [h1]; simp [h, h2]
  exact ⟨e, by show (cmpEq S d d).map (!·) = _; rw [e]; rfl⟩
theorem fr_plain (a b : Int) : (fr a b).plain DEEP = true := rfl
theorem ints_plain (ns : List Int) : (D.lst (ns.map .int)).plain DEEP = true := plain_ints ns
section
variable {P : List Def} (F : Nat)
theorem waysG_ok {c i : Nat} (hc : ChAt P c) (hi : P[i]? = some (g_law_ways c)) {n : Nat} (hn : 2 ≤ n) {b k : Int} {s r : Int} (h1 : s ≤ 2000) (h2 : b - s ≤ 2000) (S : Store) : LH.call P F n i [lot b k, .int s, .int r] S = .ok (.int (nr b k s r)) S := by
  obtain ⟨n, rfl⟩ : ∃ m, n = m + 2 := ⟨n - 2, by omega⟩
  refine call_ret hi rfl ?_ (.inr rfl)
  have e1 := hc.ok F n s r S h1
  have e2 := hc.ok F n (b - s) (k - r) S h2
  have s1 := small_pow (ch_abs h1 r) (by decide)
  have s2 := small_pow (ch_abs h2 (k - r)) (by decide)
  unfold nr
  generalize ch s r = x at *
  generalize ch (b - s) (k - r) = y at *
  unfold lot
  simp [g_law_ways, startE, e1, e2, s1, s2]
theorem pair_waysG_ok {c bo i : Nat} (hc : ChAt P c) (hbo : P[bo]? = some gBoth) (hi : P[i]? = some (g_law_pair_ways c bo)) {n : Nat} (hn : 2 ≤ n) {b k : Int} {xs ys : List Int} (h : Pr2 b k xs ys) (f g : Nat) (S : Store) : LH.call P F n i [lot b k, .lst (xs.map .int), .lst (ys.map .int), .int f, .int g] S = .ok (.int (nb b k (bothI xs ys).length xs.length ys.length f g)) S := by
  obtain ⟨n, rfl⟩ : ∃ m, n = m + 2 := ⟨n - 2, by omega⟩
  obtain ⟨l1, l2, l3, l4, l5⟩ := h.lens
  have hb := h.b1
  have e1 := both_ok hbo F n (xs := xs) (ys := ys) (by omega) S
  obtain ⟨s, hs⟩ : ∃ s, s = (bothI xs ys).length := ⟨_, rfl⟩
  have hsl : (((bothI xs ys).map D.int).length : Int) = (s : Int) := by rw [hs]; simp
  have hxl : ((xs.map D.int).length : Int) = (xs.length : Int) := by simp
  have hyl : ((ys.map D.int).length : Int) = (ys.length : Int) := by simp
  rw [← hs] at l1 l2 l3 ⊢
  obtain ⟨m1, m2, m3, m4⟩ := min3_eq (s : Int) f g
  obtain ⟨N, hN⟩ : ∃ N : Nat, min3 (s : Int) f g = N := ⟨(min3 (s : Int) f g).toNat, by omega⟩
  obtain ⟨ρ', S', e, rfl, q5, q8, q9, rfl⟩ := for_fix0 (g := .nm 5) (ys := rngD 0 ((N : Int) + 1)) (body := semB (LH.call P F (n + 1)) F (g_law_pair_ways_b0 c bo)) (fun j ρ S' => S' = S ∧ ∃ q5 q8 q9, ρ = [some (lot b k), some (.lst (xs.map .int)), some (.lst (ys.map .int)), some (.int f), some (.int g), q5, some (.int s), some (.int (sm j (nbt b k s xs.length ys.length f g))), q8, q9]) (rngD 0 ((N : Int) + 1)) [some (lot b k), some (.lst (xs.map .int)), some (.lst (ys.map .int)), some (.int f), some (.int g), none, some (.int s), some (.int 0), none, none] S ⟨rfl, none, none, none, rfl⟩ (by
    rintro j x ρ S' hx ⟨rfl, q5, q8, q9, rfl⟩
    obtain ⟨rfl, hj⟩ := rng_at hx
    have c1 := hc.ok F n s j S' (by omega)
    have c2 := hc.ok F n (xs.length - s) (f - j) S' (by omega)
    have c3 := hc.ok F n (ys.length - s) (g - j) S' (by omega)
    have c4 := hc.ok F n (b - xs.length - ys.length + s) (k - f - g + j) S' (by omega)
    have w1 := ch_abs1 (n := s) (by omega) j
    have w2 := ch_abs1 (n := xs.length - s) (by omega) (f - j)
    have w3 := ch_abs1 (n := ys.length - s) (by omega) (g - j)
    have w4 := ch_abs1 (n := b - xs.length - ys.length + s) (by omega) (k - f - g + j)
    have s1 := small_pow w1 (by decide)
    have s2 := small_pow w2 (by decide)
    have s3 := small_pow w3 (by decide)
    have s4 := small_pow w4 (by decide)
    have s12 := small_pow (natAbs_mul_lt w1 w2) (by decide)
    have s123 := small_pow (natAbs_mul_lt (natAbs_mul_lt w1 w2) w3) (by decide)
    have et : sm (j + 1) (nbt b k s xs.length ys.length f g) = sm j (nbt b k s xs.length ys.length f g) + ch s j * ch (xs.length - s) (f - j) * ch (ys.length - s) (g - j) * ch (b - xs.length - ys.length + s) (k - f - g + j) := rfl
    refine ⟨_, _, S', rfl, .inl ?_, rfl, some (.int (j : Int)), some (.int (k - f - g + j)), some (.int (ch s j * ch (xs.length - s) (f - j) * ch (ys.length - s) (g - j))), rfl⟩
    rw [et]
    generalize sm j (nbt b k s xs.length ys.length f g) = acc at *
    generalize ch (b - xs.length - ys.length + s) (k - f - g + j) = x4 at *
    generalize ch s j = x1 at *
    generalize ch (xs.length - s) (f - j) = x2 at *
    generalize ch (ys.length - s) (g - j) = x3 at *
    generalize (xs.length : Int) = lx at *
    generalize (ys.length : Int) = ly at *
    generalize xs.map D.int = xd at *
    generalize ys.map D.int = yd at *
    generalize LH.call P F (n + 1) = cc at *
    unfold lot at *
    simp [g_law_pair_ways_b0, asg_nm, hxl, hyl, c1, c2, c3, c4, s1, s2, s3, s4, s12, s123])
  have hlen : (rngD 0 ((N : Int) + 1)).length = N + 1 := by rw [rng_len]; omega
  rw [hlen, nb_cut (b := b) (k := k) (s := s) (o := xs.length) (p := ys.length) (first := f) (second := g) N (fun m a1 a2 => by omega) (by omega)] at e
  refine call_ret hi rfl ?_ (.inr rfl)
  have ok : okR ((N : Int) + 1) = true := decide_eq_true ⟨by omega, by omega⟩
  have hmin : biD false .min [.int (s : Int), .int (f : Int), .int (g : Int)] S' = .ok (.int (N : Int)) S' := by rw [← hN]; rfl
  generalize nb b k s xs.length ys.length f g = v at *
  generalize xs.map D.int = xd at *
  generalize ys.map D.int = yd at *
  generalize (bothI xs ys).map D.int = sd at *
  generalize LH.call P F (n + 1) = cc at *
  unfold lot at *
  simp [g_law_pair_ways, startE, asgN, asg_nm, e1, hsl, hmin, ok, e]
end
end LH

end

namespace LH
open PySem hiding call truthy
open PySem.W L2 PySem.Spec PyProof.Rows
/-! ## values of any kind judged -/
def isW : D → Bool
  | .int _ => true
  | _ => false
/-- shapes with a type -/
def ty1 : D → Bool
  | .ref _ => false
  | .fn _ => false
  | .exc _ _ => false
  | .scr _ => false
  | .dct true _ _ => false
  | _ => true
theorem ty1_plain {n : Nat} {d : D} (h : d.plain n = true) : ty1 d = true := by
  cases d <;> first | rfl | (cases n <;> simp [D.plain] at h)
theorem wholeD_ok {P : List Def} {w : Nat} (hw : P[w]? = some gIsWhole) (F n : Nat) (d : D) (h : ty1 d = true) (S : Store) : LH.call P F (n + 1) w [d] S = .ok (.bl (isW d)) S := by
  refine call_ret hw rfl ?_ (.inr rfl)
  cases d with
  | dct t ks vs => cases t <;> first | (cases h; done) | simp [gIsWhole, startE, isW, Ty.le, Ty.ix]
  | _ => first | (cases h; done) | simp [gIsWhole, startE, isW, Ty.le, Ty.ix]
def isCt : D → Bool
  | .int i => decide (0 ≤ i)
  | _ => false
theorem countD_ok {P : List Def} {w c : Nat} (hw : P[w]? = some gIsWhole) (hc : P[c]? = some (gIsCount w)) (F n : Nat) (d : D) (h : ty1 d = true) (S : Store) : LH.call P F (n + 2) c [d] S = .ok (.bl (isCt d)) S := by
  refine call_ret hc rfl ?_ (.inr rfl)
  have e := wholeD_ok hw F n d h S
  cases d <;> simp [gIsCount, startE, e, isW, isCt]
def ascI : List Int → Bool
  | x :: y :: r => decide (x < y) && ascI (y :: r)
  | _ => true
theorem asc_iff : ∀ {ns : List Int}, ascI ns = true ↔ ∀ (i : Nat) (h : i + 1 < ns.length), ns[i] < ns[i + 1]
  | [] => by simp [ascI]
  | [x] => by simp [ascI]
  | x :: y :: r => by
    rw [ascI, Bool.and_eq_true, decide_eq_true_eq, asc_iff (ns := y :: r)]
    constructor
    · rintro ⟨h1, h2⟩ i hi
      cases i with
      | zero => exact h1
      | succ i => exact h2 i (by simpa using hi)
    · intro h
      exact ⟨h 0 (by simp), fun i hi => h (i + 1) (by simpa using hi)⟩
theorem ascI_ok {P : List Def} {a : Nat} (ha : P[a]? = some gAscends) (F n : Nat) (ns : List Int) (hn : ns.length ≤ 1000000) (S : Store) : LH.call P F (n + 1) a [.lst (ns.map .int)] S = .ok (.bl (ascI ns)) S := by
  refine call_ret ha rfl ?_ (.inr rfl)
  let f : D → Option D := fun d => match d with
    | .int a => if ns.getD a.toNat 0 ≤ ns.getD (a - 1).toNat 0 then some (.int a) else none
    | _ => none
  have hok : okR 1 = true ∧ okR (ns.length : Int) = true := ⟨rfl, decide_eq_true ⟨by omega, by omega⟩⟩
  have hl : lcRun (.fix (rngD 1 ns.length)) (lcBody (.nm 1) [1] (semC (LH.call P F n) gAscQ0) (semE (LH.call P F n) gAscE0) [some (.lst (ns.map .int)), none]) (rngD 1 ns.length) 0 S = .ok ((rngD 1 ns.length).filterMap f) S := by
    refine lc_fix _ _ fun d hd => ?_
    unfold rngD at hd
    obtain ⟨i, hi, rfl⟩ := List.mem_map.mp hd
    rw [List.mem_range] at hi
    have i1 : i < ns.length := by omega
    have i2 : i + 1 < ns.length := by omega
    have a1 := at_int i1
    have a2 := at_int i2
    have e1 : (1 : Int) + (i : Int) - 1 = (i : Int) := by omega
    have e2 : (1 : Int) + (i : Int) = ((i + 1 : Nat) : Int) := by omega
    have g1 : ns.getD i 0 = ns[i] := by rw [List.getD_eq_getElem?_getD, List.getElem?_eq_getElem i1]; rfl
    have g2 : ns.getD (i + 1) 0 = ns[i + 1] := by rw [List.getD_eq_getElem?_getD, List.getElem?_eq_getElem i2]; rfl
    have hf : f (.int (1 + (i : Int))) = if ns[i + 1] ≤ ns[i] then some (.int (1 + (i : Int))) else none := by
      show (if ns.getD (1 + (i : Int)).toNat 0 ≤ ns.getD (1 + (i : Int) - 1).toNat 0 then _ else _) = _
      rw [show (1 + (i : Int)).toNat = i + 1 by omega, show (1 + (i : Int) - 1).toNat = i by omega, g1, g2]
    rw [hf]
    by_cases hc : ns[i + 1] ≤ ns[i]
    · simp only [lcBody, asgG, wipeE, List.set_cons_succ, List.set_cons_zero, gAscQ0, gAscE0, q_semC_cons, q_semC_nil, q_semE_cmp, q_semE_ix, q_semE_bin, q_semE_loc, q_semE_cst, k_int, k_none, k_bool, k_str, List.getD_cons_zero, List.getD_cons_succ, R.opt_some, R.bind_ok, o_subI, x_lst, e1, a1, e_ge, Option.map_some, t_bl]
      rw [e2, a2]
      simp [hc]
    · simp only [lcBody, asgG, wipeE, List.set_cons_succ, List.set_cons_zero, gAscQ0, gAscE0, q_semC_cons, q_semC_nil, q_semE_cmp, q_semE_ix, q_semE_bin, q_semE_loc, q_semE_cst, k_int, k_none, k_bool, k_str, List.getD_cons_zero, List.getD_cons_succ, R.opt_some, R.bind_ok, o_subI, x_lst, e1, a1, e_ge, Option.map_some, t_bl]
      rw [e2, a2]
      simp [hc]
  have hlen : ((rngD 1 ns.length).filterMap f).length ≤ 16000000 := by
    refine Nat.le_trans (List.length_filterMap_le ..) ?_
    unfold rngD
    rw [List.length_map, List.length_range]
    omega
  have hpl : D.plainL 19 ((rngD 1 ns.length).filterMap f) = true := by
    rw [plainL_iff]
    intro d hd
    obtain ⟨e, _, he⟩ := List.mem_filterMap.mp hd
    cases e with
    | int a =>
      simp only [f] at he
      split at he
      · cases he; rfl
      · cases he
    | _ => cases he
  have hval : ((rngD 1 ns.length).filterMap f).isEmpty = ascI ns := by
    rw [Bool.eq_iff_iff, List.isEmpty_iff, asc_iff, List.filterMap_eq_nil_iff]
    constructor
    · intro h i hi
      have := h (.int (1 + (i : Int))) (by
        unfold rngD
        exact List.mem_map.mpr ⟨i, by rw [List.mem_range]; omega, rfl⟩)
      have g1 : ns.getD i 0 = ns[i] := by rw [List.getD_eq_getElem?_getD, List.getElem?_eq_getElem (by omega)]; rfl
      have g2 : ns.getD (i + 1) 0 = ns[i + 1] := by rw [List.getD_eq_getElem?_getD, List.getElem?_eq_getElem hi]; rfl
      have hf : (if ns.getD (1 + (i : Int)).toNat 0 ≤ ns.getD (1 + (i : Int) - 1).toNat 0 then some (D.int (1 + (i : Int))) else none) = none := this
      rw [show (1 + (i : Int)).toNat = i + 1 by omega, show (1 + (i : Int) - 1).toNat = i by omega, g1, g2] at hf
      split at hf
      · cases hf
      · omega
    · intro h d hd
      unfold rngD at hd
      obtain ⟨i, hi, rfl⟩ := List.mem_map.mp hd
      rw [List.mem_range] at hi
      have i2 : i + 1 < ns.length := by omega
      have g1 : ns.getD i 0 = ns[i] := by rw [List.getD_eq_getElem?_getD, List.getElem?_eq_getElem (by omega)]; rfl
      have g2 : ns.getD (i + 1) 0 = ns[i + 1] := by rw [List.getD_eq_getElem?_getD, List.getElem?_eq_getElem i2]; rfl
      show (if ns.getD (1 + (i : Int)).toNat 0 ≤ ns.getD (1 + (i : Int) - 1).toNat 0 then some (D.int (1 + (i : Int))) else none) = none
      rw [show (1 + (i : Int)).toNat = i + 1 by omega, show (1 + (i : Int) - 1).toNat = i by omega, g1, g2]
      have := h i i2
      rw [if_neg (by omega)]
  have hmk := mkL_f S ((rngD 1 ns.length).filterMap f) hlen
  have hmk2 := mkL_f S [] (by simp)
  have heq := (ne_nilD (S := S) hpl).2
  simp [gAscends, startE, hok, hl, hmk, hmk2, heq, hval]
theorem eqDL_ints : ∀ xs ys : List Int, eqDL (xs.map .int) (ys.map .int) = decide (xs = ys)
  | [], [] => by simp [eqDL]
  | [], y :: ys => by simp [eqDL]
  | x :: xs, [] => by simp [eqDL]
  | x :: xs, y :: ys => by
    simp only [List.map_cons, eqDL, eqD, eqDL_ints xs ys]
    by_cases h : x = y
    · subst h; simp
    · simp [h]
theorem eq_ints (S : Store) (xs ys : List Int) : cmpD S .eq (.lst (xs.map .int)) (.lst (ys.map .int)) = some (decide (xs = ys)) ∧ cmpD S .ne (.lst (xs.map .int)) (.lst (ys.map .int)) = some (!decide (xs = ys)) := by
  have e : cmpEq S (.lst (xs.map .int)) (.lst (ys.map .int)) = some (decide (xs = ys)) := by
    have h1 : rd S (.lst (xs.map .int)) = some (.lst (xs.map .int)) := rd_plain' (ints_plain xs)
    have h2 : rd S (.lst (ys.map .int)) = some (.lst (ys.map .int)) := rd_plain' (ints_plain ys)
    unfold cmpEq
    simp only [h1, h2, ints_plain, eqD, eqDL_ints, Bool.and_self, if_true]
  exact ⟨e, by show (cmpEq S _ _).map (!·) = _; rw [e]; rfl⟩
theorem asc_pw {ns : List Int} : ascI ns = true ↔ ns.Pairwise (· < ·) := by
  rw [asc_iff]
  constructor
  · intro h
    rw [List.pairwise_iff_getElem]
    intro i j hi hj hij
    have key : ∀ k (hk : i + k + 1 < ns.length), ns[i] < ns[i + k + 1] := by
      intro k
      induction k with
      | zero => intro hk; exact h i hk
      | succ k ih =>
        intro hk
        have h1 := ih (by omega)
        have h2 := h (i + k + 1) (by omega)
        have e : i + (k + 1) + 1 = i + k + 1 + 1 := by omega
        simp only [e]
        omega
    have e : j = i + (j - i - 1) + 1 := by omega
    have := key (j - i - 1) (by omega)
    simp only [← e] at this
    exact this
  · intro h i hi
    exact List.pairwise_iff_getElem.mp h i (i + 1) (by omega) hi (by omega)
/-- a list ascends where it is what set and sorted make of it -/
theorem asc_set (ns : List Int) : ascI ns = decide (ns = sortI (ddI ns)) := by
  have hp := sortI_perm (ddI ns)
  have hs : (sortI (ddI ns)).Pairwise (· < ·) := ((sortI_sorted (ddI ns)).and (hp.nodup_iff.mpr (LS.nodup_dd ns))).imp fun ⟨h1, h2⟩ => by omega
  rw [Bool.eq_iff_iff, asc_pw, decide_eq_true_eq]
  constructor
  · intro h
    have hn : ns.Nodup := h.imp fun h => by omega
    refine sorted_eqI ((List.perm_ext_iff_of_nodup hn (LS.nodup_dd ns)).mpr fun k => LS.mem_dd.symm) (h.imp fun h => by omega)
  · intro h
    rw [h]; exact hs
/-- a loop that ends at the first bad thing -/
theorem for_until {body : Env → Store → RS} {g : G} {ys : List D} {S : Store} {v : D} (good : D → Bool) (Inv : Nat → Env → Prop) : ∀ (xs : List D) (i : Nat) (ρ : Env), Inv i ρ →
    (∀ k x ρ, xs[k]? = some x → good x = true → Inv (i + k) ρ → ∃ ρ1 ρ2, asgG g x ρ = some ρ1 ∧ body ρ1 S = .nx ρ2 S ∧ Inv (i + k + 1) ρ2) →
    (∀ k x ρ, xs[k]? = some x → good x = false → Inv (i + k) ρ → ∃ ρ1, asgG g x ρ = some ρ1 ∧ body ρ1 S = .rt v S) →
    if xs.all good then ∃ ρ', forRun (.fix ys) g body xs i ρ S = .nx ρ' S ∧ Inv (i + xs.length) ρ' else forRun (.fix ys) g body xs i ρ S = .rt v S
  | [], i, ρ, h, _, _ => by rw [List.all_nil, if_pos rfl]; exact ⟨ρ, rfl, h⟩
  | x :: xs, i, ρ, h, s1, s2 => by
    rw [List.all_cons]
    cases hg : good x with
    | false =>
      obtain ⟨ρ1, e1, e2⟩ := s2 0 x ρ rfl hg h
      rw [Bool.false_and, if_neg (by decide)]
      simp only [forRun, Src.cur, e1, e2]
    | true =>
      obtain ⟨ρ1, ρ2, e1, e2, h2⟩ := s1 0 x ρ rfl hg h
      have ih := for_until (ys := ys) good Inv xs (i + 1) ρ2 h2 (fun k y ρ hy hgy hi => by
        have := s1 (k + 1) y ρ (by simpa using hy) hgy (by rw [show i + (k + 1) = i + 1 + k by omega]; exact hi)
        rw [show i + (k + 1) + 1 = i + 1 + k + 1 by omega] at this
        exact this) (fun k y ρ hy hgy hi => s2 (k + 1) y ρ (by simpa using hy) hgy (by rw [show i + (k + 1) = i + 1 + k by omega]; exact hi))
      rw [Bool.true_and]
      rw [List.length_cons, show i + (xs.length + 1) = i + 1 + xs.length by omega]
      simp only [forRun, Src.cur, e1, e2]
      exact ih
theorem for_until0 {body : Env → Store → RS} {g : G} {ys : List D} {S : Store} {v : D} (good : D → Bool) (Inv : Nat → Env → Prop) (xs : List D) (ρ : Env) (h : Inv 0 ρ)
    (s1 : ∀ k x ρ, xs[k]? = some x → good x = true → Inv k ρ → ∃ ρ1 ρ2, asgG g x ρ = some ρ1 ∧ body ρ1 S = .nx ρ2 S ∧ Inv (k + 1) ρ2)
    (s2 : ∀ k x ρ, xs[k]? = some x → good x = false → Inv k ρ → ∃ ρ1, asgG g x ρ = some ρ1 ∧ body ρ1 S = .rt v S) :
    if xs.all good then ∃ ρ', forRun (.fix ys) g body xs 0 ρ S = .nx ρ' S ∧ Inv xs.length ρ' else forRun (.fix ys) g body xs 0 ρ S = .rt v S := by
  have := for_until (ys := ys) (S := S) (v := v) good Inv xs 0 ρ h (by simpa only [Nat.zero_add] using s1) (by simpa only [Nat.zero_add] using s2)
  simpa only [Nat.zero_add] using this
mutual
theorem plain_mono : ∀ {k m : Nat} {d : D}, k ≤ m → d.plain k = true → d.plain m = true
  | k, m, .non, _, _ => by cases m <;> rfl
  | k, m, .bl _, _, _ => by cases m <;> rfl
  | k, m, .int _, _, _ => by cases m <;> rfl
  | k, m, .str x, _, h => by
    have h : PyData.strOk x = true := by cases k <;> simpa [D.plain] using h
    cases m <;> simpa [D.plain] using h
  | 0, _, .lst _, _, h => by simp [D.plain] at h
  | 0, _, .tup _, _, h => by simp [D.plain] at h
  | k + 1, 0, _, hk, _ => by omega
  | k + 1, m + 1, .lst xs, hk, h => by
    simp only [D.plain] at h ⊢
    exact plainL_mono (by omega) h
  | k + 1, m + 1, .tup xs, hk, h => by
    simp only [D.plain] at h ⊢
    exact plainL_mono (by omega) h
  | k, _, .dct _ _ _, _, h => by cases k <;> simp [D.plain] at h
  | k, _, .ref _, _, h => by cases k <;> simp [D.plain] at h
  | k, _, .fn _, _, h => by cases k <;> simp [D.plain] at h
  | k, _, .exc _ _, _, h => by cases k <;> simp [D.plain] at h
  | k, _, .scr _, _, h => by cases k <;> simp [D.plain] at h
theorem plainL_mono : ∀ {k m : Nat} {ds : List D}, k ≤ m → D.plainL k ds = true → D.plainL m ds = true
  | _, _, [], _, _ => by simp [D.plainL]
  | k, m, d :: ds, hk, h => by
    simp only [D.plainL, Bool.and_eq_true] at h ⊢
    exact ⟨plain_mono hk h.1, plainL_mono hk h.2⟩
end
mutual
theorem rk_mono : ∀ {k m : Nat} {d : D}, k ≤ m → d.rk k = true → d.rk m = true
  | k, m, .non, _, _ => by cases m <;> rfl
  | k, m, .bl _, _, _ => by cases m <;> rfl
  | k, m, .int i, _, h => by
    have h : decide (-999999999999 ≤ i ∧ i ≤ 999999999999) = true := by cases k <;> simpa [D.rk] using h
    cases m <;> exact h
  | k, m, .str x, _, h => by
    have h : (x.cps.toList.all fun c => decide (c < 16 ^ 8)) = true := by cases k <;> exact h
    cases m <;> exact h
  | 0, _, .lst _, _, h => by simp [D.rk] at h
  | 0, _, .tup _, _, h => by simp [D.rk] at h
  | 0, _, .dct _ _ _, _, h => by simp [D.rk] at h
  | k + 1, 0, _, hk, _ => by omega
  | k + 1, m + 1, .lst xs, hk, h => by
    simp only [D.rk] at h ⊢
    exact rkL_mono (by omega) h
  | k + 1, m + 1, .tup xs, hk, h => by
    simp only [D.rk] at h ⊢
    exact rkL_mono (by omega) h
  | k + 1, m + 1, .dct _ _ xs, hk, h => by
    simp only [D.rk, Bool.and_eq_true] at h ⊢
    exact ⟨h.1, rkL_mono (by omega) h.2⟩
  | k, _, .ref _, _, h => by cases k <;> simp [D.rk] at h
  | k, _, .fn _, _, h => by cases k <;> simp [D.rk] at h
  | k, _, .exc _ _, _, h => by cases k <;> simp [D.rk] at h
  | k, _, .scr _, _, h => by cases k <;> simp [D.rk] at h
theorem rkL_mono : ∀ {k m : Nat} {ds : List D}, k ≤ m → D.rkL k ds = true → D.rkL m ds = true
  | _, _, [], _, _ => by simp [D.rkL]
  | k, m, d :: ds, hk, h => by
    simp only [D.rkL, Bool.and_eq_true] at h ⊢
    exact ⟨rk_mono hk h.1, rkL_mono hk h.2⟩
end
/-! ## shuffled by inserting -/
def gInsB (r : Nat) : B := (.cons (.exp (.me false .insert (.loc 2) (.cons (.call r (.cons (.loc 0) (.cons (.bin false .add (.bi false .len (.cons (.loc 2) .nil)) (.cst (.int 1))) .nil))) (.cons (.loc 3) .nil))))
    .nil)
def gShufIns (r : Nat) : Def := ⟨4, 2, false,
    (.cons (.asg (.nm 2) (.lst true .nil))
    (.cons (.for_ (.nm 3) (.it (.loc 1)) (gInsB r))
    (.cons (.ret (.loc 2))
    .nil)))⟩
theorem rcv_ins {S : Store} {n : Nat} {xs : List D} (h : S[n]? = some (.lst xs)) : LH.recv .insert S (.ref n) = true := by simp [LH.recv, lst_ref h]
theorem perm_ins {α : Type} (l : List α) (x : α) (i : Nat) : (l.take i ++ [x] ++ l.drop i).Perm (l ++ [x]) := by
  have h1 : (l.take i ++ [x] ++ l.drop i).Perm (l.take i ++ l.drop i ++ [x]) := by
    rw [List.append_assoc, List.append_assoc]
    exact List.Perm.append_left _ List.perm_append_comm
  rwa [List.take_append_drop] at h1
theorem shufIns_ok {P : List Def} {F n ih ir is : Nat} (hh : P[ih]? = some gHash) (hr : P[ir]? = some (gRandom ih)) (hs : P[is]? = some (gShufIns ir)) {S : Store} {g m : Nat} (hg : GenAt S g m) (hC : ClS S) {xs : List D} (hp : D.plainL 19 xs = true) (hm : m + 100 * xs.length ≤ 2 ^ 3000) (hb : xs.length ≤ 1000) :
    ∃ ys S', LH.call P F (n + 3) is [.ref g, .lst xs] S = .ok (.lst ys) S' ∧ ys.Perm xs ∧ GenAt S' g (m + 100 * xs.length) ∧ SameBut g S S' := by
  have hlt : g < S.length := by obtain ⟨_, _, _, e, _⟩ := hg; exact (List.getElem?_eq_some_iff.mp e).1
  obtain ⟨ρ', S', e, ys, p1, hl, hf, gn, ho, q3, rfl⟩ := for_fix0 (g := .nm 3) (ys := xs) (body := semB (LH.call P F (n + 2)) F (gInsB ir)) (fun j ρ S' => ∃ ys : List D, ys.Perm (xs.take j) ∧ S'.length = S.length + 1 ∧ S'[S.length]? = some (.lst ys) ∧ GenAt S' g (m + 100 * j) ∧ (∀ i, i < S.length → i ≠ g → S'[i]? = S[i]?) ∧ ∃ q3, ρ = [some (.ref g), some (.lst xs), some (.ref S.length), q3]) xs [some (.ref g), some (.lst xs), some (.ref S.length), none] (S ++ [.lst []]) ⟨[], .refl _, by simp, by simp, by
      obtain ⟨a, b, c, q, q2⟩ := hg
      exact ⟨a, b, c, by rw [List.getElem?_append_left hlt]; exact q, q2⟩, fun i hi _ => by rw [List.getElem?_append_left hi], none, rfl⟩ (by
    rintro j x ρ S1 hx ⟨ys, p1, hl, hf, gn, ho, q3, rfl⟩
    obtain ⟨hj, rfl⟩ := List.getElem?_eq_some_iff.mp hx
    have yl : ys.length = j := by rw [p1.length_eq, List.length_take]; omega
    obtain ⟨r, S2, e1, r0, r1, g2, s2⟩ := random_ok (F := F) (n := n) hh hr gn (by omega) (b := (ys.length : Int) + 1) (by omega) (small_nat (k := 1001) (by omega) (by omega) (by decide))
    obtain ⟨r, rfl⟩ : ∃ k : Nat, r = k := ⟨r.toNat, by omega⟩
    have gne : S.length ≠ g := by omega
    have f2 : S2[S.length]? = some (.lst ys) := (s2.2 _ gne).trans hf
    have q1 := rcv_ins hf
    have q2 := len_ref hf
    have eins : meD false .insert (.ref S.length) [.int (r : Int), xs[j]] S2 = .ok .non (S2.set S.length (.lst (ys.take r ++ [xs[j]] ++ ys.drop r))) := by
      show meInsert (.ref S.length) [.int (r : Int), xs[j]] S2 = _
      unfold meInsert
      simp only [f2]
      rw [if_pos ⟨by show _ < 16000000; omega, by omega, by show _ ≤ ((16000000 : Nat) : Int); omega⟩]
      rfl
    refine ⟨_, _, S2.set S.length (.lst (ys.take r ++ [xs[j]] ++ ys.drop r)), rfl, .inl ?_, ys.take r ++ [xs[j]] ++ ys.drop r, ?_, ?_, ?_, ?_, ?_, some xs[j], rfl⟩
    · have hyl : (ys.length : Int) = ((ys.length : Nat) : Int) := rfl
      generalize xs[j] = x at *
      generalize LH.call P F (n + 2) = cc at *
      simp [gInsB, q1, q2, e1]
      simp at eins
      simp [eins]
    · rw [List.take_succ_eq_append_getElem hj]
      exact (perm_ins ys xs[j] r).trans (p1.append_right _)
    · rw [List.length_set, s2.1, hl]
    · rw [List.getElem?_set_self (by rw [s2.1, hl]; omega)]
    · obtain ⟨a, b, c, q, q2⟩ := g2
      exact ⟨a, b, c, by rw [List.getElem?_set_ne gne]; exact q, by rw [show m + 100 * (j + 1) = m + 100 * j + 100 by omega]; exact q2⟩
    · intro i hi hig
      rw [List.getElem?_set_ne (by omega), s2.2 i hig]
      exact ho i hi hig)
  rw [List.take_length] at p1
  have hcl : ∀ i o, i < S.length → S'[i]? = some o → Ob.cl S.length o = true := fun i o hi ho' => by
    by_cases hig : i = g
    · subst hig
      obtain ⟨a, b, c, q, _⟩ := gn
      rw [q] at ho'
      cases ho'
      rfl
    · rw [ho i hi hig] at ho'
      exact hC i o ho'
  have hpy : D.plainL 19 ys = true := plainL_iff.mpr fun d hd => plainL_iff.mp hp d (p1.mem_iff.mp hd)
  refine ⟨ys, S'.take S.length, ?_, p1, ?_, ?_⟩
  · have hfin := fin_lst (Nat.le_refl S.length) hf hpy hcl
    rw [← hfin]
    refine call_rt hs rfl ?_
    have h1 : mkL true [] S = .ok (.ref S.length) (S ++ [.lst []]) := mkL_t _ _ (by simp)
    simp [gShufIns, startE, asg_nm, h1, e]
  · obtain ⟨a, b, c, q, q2⟩ := gn
    exact ⟨a, b, c, by rw [List.getElem?_take_of_lt hlt]; exact q, q2⟩
  · refine ⟨by rw [List.length_take, hl]; omega, fun i hi => ?_⟩
    by_cases hil : i < S.length
    · rw [List.getElem?_take_of_lt hil]; exact ho i hil hi
    · rw [List.getElem?_eq_none (by rw [List.length_take]; omega), List.getElem?_eq_none (by omega)]
/-- a comprehension whose turns move the store -/
theorem lc_st {body : D → Store → R (Option D)} {ys : List D} (Inv : Nat → Store → Prop) (Q : Nat → D → Prop) : ∀ (xs : List D) (i : Nat) (S : Store), Inv i S →
    (∀ k x S, xs[k]? = some x → Inv (i + k) S → ∃ d S', body x S = .ok (some d) S' ∧ Q (i + k) d ∧ Inv (i + k + 1) S') →
    ∃ ds S', lcRun (.fix ys) body xs i S = .ok ds S' ∧ ds.length = xs.length ∧ (∀ k d, ds[k]? = some d → Q (i + k) d) ∧ Inv (i + xs.length) S'
  | [], i, S, h, _ => ⟨[], S, rfl, rfl, fun k d hd => by simp at hd, h⟩
  | x :: xs, i, S, h, st => by
    obtain ⟨d, S1, e1, q1, h1⟩ := st 0 x S rfl h
    obtain ⟨ds, S2, e2, l2, q2, h2⟩ := lc_st (ys := ys) Inv Q xs (i + 1) S1 h1 fun k y S hy hi => by
      have := st (k + 1) y S (by simpa using hy) (by rw [show i + (k + 1) = i + 1 + k by omega]; exact hi)
      rw [show i + (k + 1) = i + 1 + k by omega] at this
      exact this
    refine ⟨d :: ds, S2, ?_, by rw [List.length_cons, List.length_cons, l2], fun k d' hd => ?_, by rw [List.length_cons, show i + (xs.length + 1) = i + 1 + xs.length by omega]; exact h2⟩
    · simp only [lcRun, Src.cur, e1, R.noex_ok, R.bind_ok, e2]
    · cases k with
      | zero => simp at hd; subst hd; exact q1
      | succ k =>
        have := q2 k d' (by simpa using hd)
        rwa [show i + 1 + k = i + (k + 1) by omega] at this
end LH

namespace LH
open PySem hiding call truthy
open PySem.W L2 PySem.Spec PyProof.Rows
/-! ## exact answers, live or not -/
def gExactE (i : Nat) : E := (.call i (.cons (.loc 2) (.cons (.loc 3) .nil)))
def gExact (i : Nat) : Def := ⟨4, 2, false,
    (.cons (.ifs (.isi (.loc 1) [.list] true) (.cons (.ret (.and (.isi (.loc 0) [.list] true) (.and (.cmp .eq (.bi false .len (.cons (.loc 0) .nil)) (.bi false .len (.cons (.loc 1) .nil))) (.cmp .notin (.cst (.bool false)) (.lc false [((Str.ofString "one"), 2), ((Str.ofString "other"), 3)] (gExactE i) (.tp (.cons (.nm 2) (.cons (.nm 3) .nil))) (.zip (.loc 0) (.loc 1)) .nil)))))
    .nil) .nil)
    (.cons (.ifs (.isi (.loc 1) [.tuple] true) (.cons (.ret (.and (.isi (.loc 0) [.tuple] true) (.and (.cmp .eq (.bi false .len (.cons (.loc 0) .nil)) (.bi false .len (.cons (.loc 1) .nil))) (.cmp .notin (.cst (.bool false)) (.lc false [((Str.ofString "one"), 2), ((Str.ofString "other"), 3)] (gExactE i) (.tp (.cons (.nm 2) (.cons (.nm 3) .nil))) (.zip (.loc 0) (.loc 1)) .nil)))))
    .nil) .nil)
    (.cons (.ifs (.cmp .is_ (.loc 1) (.cst .none)) (.cons (.ret (.cmp .is_ (.loc 0) (.cst .none)))
    .nil) .nil)
    (.cons (.ifs (.cmp .is_ (.loc 1) (.cst (.bool true))) (.cons (.ret (.cmp .is_ (.loc 0) (.cst (.bool true))))
    .nil) .nil)
    (.cons (.ifs (.cmp .is_ (.loc 1) (.cst (.bool false))) (.cons (.ret (.cmp .is_ (.loc 0) (.cst (.bool false))))
    .nil) .nil)
    (.cons (.ifs (.isi (.loc 1) [.int] true) (.cons (.ret (.and (.isi (.loc 0) [.int] true) (.and (.not (.isi (.loc 0) [.bool] true)) (.cmp .eq (.loc 0) (.loc 1)))))
    .nil) .nil)
    (.cons (.ret (.and (.isi (.loc 0) [.str] true) (.cmp .eq (.loc 0) (.loc 1))))
    .nil)))))))⟩
/-- t shows d (t may be live) -/
inductive Shows (S : Store) : Nat → D → D → Prop
  | non {k : Nat} : Shows S k .non .non
  | bl {k : Nat} (b : Bool) : Shows S k (.bl b) (.bl b)
  | int {k : Nat} (i : Int) : Shows S k (.int i) (.int i)
  | str {k : Nat} (x : Str) : Shows S k (.str x) (.str x)
  | lst {k : Nat} {xs ys : List D} : xs.length ≤ 16000000 → xs.length = ys.length → (∀ p ∈ xs.zip ys, Shows S k p.1 p.2) → Shows S (k + 1) (.lst xs) (.lst ys)
  | live {k n : Nat} {xs ys : List D} : S[n]? = some (.lst xs) → xs.length ≤ 16000000 → xs.length = ys.length → (∀ p ∈ xs.zip ys, Shows S k p.1 p.2) → Shows S (k + 1) (.ref n) (.lst ys)
  | tup {k : Nat} {xs ys : List D} : xs.length ≤ 16000000 → xs.length = ys.length → (∀ p ∈ xs.zip ys, Shows S k p.1 p.2) → Shows S (k + 1) (.tup xs) (.tup ys)
theorem lc_zipl {body : D → Store → R (Option D)} {S : Store} {a b : D} {xs ys zs : List D} (ha : lstD S a = some xs) (hb : lstD S b = some ys) (h : ∀ p ∈ xs.zip ys, body (.tup [p.1, p.2]) S = .ok (some (.bl true)) S) :
    lcRun (.zipl a b zs) body ((xs.zip ys).map fun p => .tup [p.1, p.2]) 0 S = .ok ((xs.zip ys).map fun _ => .bl true) S := by
  suffices H : ∀ (L : List (D × D)) (i : Nat), (xs.zip ys).drop i = L → lcRun (.zipl a b zs) body (L.map fun p => .tup [p.1, p.2]) i S = .ok (L.map fun _ => .bl true) S from H _ 0 rfl
  intro L
  induction L with
  | nil =>
    intro i hi
    have h1 : (xs.zip ys).length ≤ i := List.drop_eq_nil_iff.mp hi
    rw [List.length_zip] at h1
    have h2 : xs.length ≤ i ∨ ys.length ≤ i := by omega
    simp [lcRun, Src.fin, ha, hb, h2]
  | cons p L ih =>
    intro i hi
    have hp : (xs.zip ys)[i]? = some p := by
      have := congrArg List.head? hi
      rw [List.head?_drop] at this
      simpa using this
    have hL : (xs.zip ys).drop (i + 1) = L := by
      have := congrArg List.tail hi
      simpa [List.tail_drop] using this
    obtain ⟨h1, h2⟩ := List.getElem?_zip_eq_some.mp hp
    have hc : (Src.zipl a b zs).cur i (.tup [p.1, p.2]) S = some (.tup [p.1, p.2]) := by
      simp [Src.cur, ha, hb, h1, h2]
    have hb' := h p (List.mem_of_getElem? hp)
    simp [lcRun, hc, hb', ih (i + 1) hL]
theorem notin_true (S : Store) (n : Nat) (hn : n ≤ 16000000) : cmpD S .notin (.bl false) (.lst (List.replicate n (.bl true))) = some true := by
  have hp : D.plainL 19 (List.replicate n (.bl true)) = true := by
    rw [plainL_iff]
    intro d hd
    rw [List.eq_of_mem_replicate hd]
    rfl
  have h1 : rd S (.bl false) = some (.bl false) := rfl
  have h2 : D.travL (fun n => rd S (.ref n)) (List.replicate n (.bl true)) = some (List.replicate n (.bl true)) := by
    clear hn hp
    induction n with
    | zero => rfl
    | succ n ih => simp [List.replicate_succ, D.travL, D.trav, ih]
  have h3 : (D.bl false).plain DEEP = true := rfl
  have h4 : (D.lst (List.replicate n (.bl true))).plain DEEP = true := hp
  show (inD S (.bl false) (.lst (List.replicate n (.bl true)))).map (!·) = _
  unfold inD
  simp only [l_lst, h1, h2, h3, h4, Bool.and_self, if_true, Option.map_some]
  have : (List.replicate n (D.bl true)).any (fun z => eqD z (.bl false)) = false := by
    rw [List.any_eq_false]
    intro d hd
    rw [List.eq_of_mem_replicate hd]
    simp [eqD]
  rw [this]
  rfl
theorem exact_shows {P : List Def} {F ie : Nat} (he : P[ie]? = some (gExact ie)) (S : Store) : ∀ (k : Nat) {t d : D}, Shows S k t d → LH.call P F (k + 1) ie [t, d] S = .ok (.bl true) S := by
  intro k
  induction k with
  | zero =>
    intro t d h
    refine call_ret he rfl ?_ (.inr rfl)
    cases h with
    | non => simp [gExact, startE, Ty.le, Ty.ix]
    | bl b => cases b <;> simp [gExact, startE, Ty.le, Ty.ix]
    | int i => simp [gExact, startE, Ty.le, Ty.ix]
    | str x => simp [gExact, startE, Ty.le, Ty.ix]
  | succ k ih =>
    intro t d h
    refine call_ret he rfl ?_ (.inr rfl)
    have main : ∀ (xs ys : List D), xs.length ≤ 16000000 → xs.length = ys.length → (∀ p ∈ xs.zip ys, Shows S k p.1 p.2) → ∀ ρ0 ρ1, ∀ p ∈ xs.zip ys, lcBody (.tp (.cons (.nm 2) (.cons (.nm 3) .nil))) [2, 3] (semC (LH.call P F (k + 1)) .nil) (semE (LH.call P F (k + 1)) (gExactE ie)) [ρ0, ρ1, none, none] (.tup [p.1, p.2]) S = .ok (some (.bl true)) S := by
      intro xs ys _ _ hs ρ0 ρ1 p hp
      have := ih (hs p hp)
      simp [lcBody, asgG, asgL, wipeE, gExactE, this]
    have rep : ∀ (xs ys : List D), xs.length = ys.length → ((xs.zip ys).map fun _ => D.bl true) = List.replicate xs.length (.bl true) := by
      intro xs ys e
      rw [List.map_const', List.length_zip, e, Nat.min_self]
    cases h with
    | non => simp [gExact, startE, Ty.le, Ty.ix]
    | bl b => cases b <;> simp [gExact, startE, Ty.le, Ty.ix]
    | int i => simp [gExact, startE, Ty.le, Ty.ix]
    | str x => simp [gExact, startE, Ty.le, Ty.ix]
    | lst hl e hs =>
      rename_i xs ys
      have l1 : lcRun (.fix ((xs.zip ys).map fun p => .tup [p.1, p.2])) (lcBody (.tp (.cons (.nm 2) (.cons (.nm 3) .nil))) [2, 3] (semC (LH.call P F (k + 1)) .nil) (semE (LH.call P F (k + 1)) (gExactE ie)) [some (.lst xs), some (.lst ys), none, none]) ((xs.zip ys).map fun p => .tup [p.1, p.2]) 0 S = .ok ((xs.zip ys).map fun _ => .bl true) S :=
        lc_map (fun p : D × D => D.tup [p.1, p.2]) (fun _ => .bl true) _ _ (fun p hp => main xs ys hl e hs _ _ p hp)
      rw [rep xs ys e] at l1
      have m1 := mkL_f S (List.replicate xs.length (.bl true)) (by simpa using hl)
      have n1 := notin_true S xs.length hl
      rw [e] at l1 m1 n1
      simp [gExact, startE, l1, m1, n1, e, Ty.le, Ty.ix]
    | live hS hl e hs =>
      rename_i n xs ys
      have l0 : lstD S (.ref n) = some xs := lst_ref hS
      have l1 := lc_zipl (zs := (xs.zip ys).map fun p => .tup [p.1, p.2]) (b := .lst ys) l0 rfl (fun p hp => main xs ys hl e hs (some (.ref n)) (some (.lst ys)) p hp)
      rw [rep xs ys e] at l1
      have m1 := mkL_f S (List.replicate xs.length (.bl true)) (by simpa using hl)
      have n1 := notin_true S xs.length hl
      rw [e] at l1 m1 n1
      have z1 := isi_ref hS [Ty.list]
      have z2 := len_ref hS
      simp [gExact, startE, l0, l1, m1, n1, z1, z2, e, Ty.le, Ty.ix, Src.items]
    | tup hl e hs =>
      rename_i xs ys
      have l1 : lcRun (.fix ((xs.zip ys).map fun p => .tup [p.1, p.2])) (lcBody (.tp (.cons (.nm 2) (.cons (.nm 3) .nil))) [2, 3] (semC (LH.call P F (k + 1)) .nil) (semE (LH.call P F (k + 1)) (gExactE ie)) [some (.tup xs), some (.tup ys), none, none]) ((xs.zip ys).map fun p => .tup [p.1, p.2]) 0 S = .ok ((xs.zip ys).map fun _ => .bl true) S :=
        lc_map (fun p : D × D => D.tup [p.1, p.2]) (fun _ => .bl true) _ _ (fun p hp => main xs ys hl e hs _ _ p hp)
      rw [rep xs ys e] at l1
      have m1 := mkL_f S (List.replicate xs.length (.bl true)) (by simpa using hl)
      have n1 := notin_true S xs.length hl
      rw [e] at l1 m1 n1
      simp [gExact, startE, l1, m1, n1, e, Ty.le, Ty.ix]
/-! ## each once -/
def gUnlikeB : B := (.cons (.ifs (.cmp .notin (.loc 2) (.loc 1)) (.cons (.exp (.me false .append (.loc 1) (.cons (.loc 2) .nil)))
    .nil) .nil)
    .nil)
def gUnlike : Def := ⟨3, 1, false,
    (.cons (.asg (.nm 1) (.lst true .nil))
    (.cons (.for_ (.nm 2) (.it (.bi false .sorted (.cons (.loc 0) .nil))) gUnlikeB)
    (.cons (.ret (.loc 1))
    .nil)))⟩
def unl1 (acc : List D) (x : D) : List D := if acc.any (fun z => eqD z x) then acc else acc ++ [x]
def unl (acc : List D) : List D → List D
  | [] => acc
  | x :: r => unl (unl1 acc x) r
theorem unl_snoc (acc : List D) : ∀ (xs : List D) (x : D), unl acc (xs ++ [x]) = unl1 (unl acc xs) x := by
  intro xs
  induction xs generalizing acc with
  | nil => intro x; rfl
  | cons a xs ih => intro x; exact ih _ x
theorem unl_sub : ∀ {xs acc : List D}, ∀ d ∈ unl acc xs, d ∈ acc ∨ d ∈ xs
  | [], acc, d, h => .inl h
  | x :: xs, acc, d, h => by
    rcases unl_sub (xs := xs) d h with h | h
    · unfold unl1 at h
      split at h
      · exact .inl h
      · rcases List.mem_append.mp h with h | h
        · exact .inl h
        · simp at h; subst h; exact .inr List.mem_cons_self
    · exact .inr (List.mem_cons_of_mem _ h)
theorem unl_len : ∀ (xs acc : List D), (unl acc xs).length ≤ acc.length + xs.length
  | [], acc => by simp [unl]
  | x :: xs, acc => by
    have h := unl_len xs (unl1 acc x)
    have : (unl1 acc x).length ≤ acc.length + 1 := by
      unfold unl1
      split
      · omega
      · simp
    show (unl (unl1 acc x) xs).length ≤ _
    simp only [List.length_cons]
    omega
theorem notin_live {S : Store} {n : Nat} {acc : List D} {x : D} (hS : S[n]? = some (.lst acc)) (hp : D.plainL 19 acc = true) (hx : x.plain 19 = true) : cmpD S .notin x (.ref n) = some (!acc.any fun z => eqD z x) := by
  have hx20 : x.plain 20 = true := plain_mono (by decide) hx
  have h1 : rd S x = some x := rd_plain' hx
  have h2 : D.travL (fun n => rd S (.ref n)) acc = some acc := plain_travL hp
  have h3 : x.plain DEEP = true := hx20
  have h4 : (D.lst acc).plain DEEP = true := hp
  show (inD S x (.ref n)).map (!·) = _
  unfold inD
  simp only [lst_ref hS, h1, h2, h3, h4, Bool.and_self, if_true, Option.map_some]
theorem unlike_ok {P : List Def} {F n iu : Nat} (hu : P[iu]? = some gUnlike) {S : Store} (hC : ClS S) {xs ys : List D} (hs : ∀ S, biD false .sorted [.lst xs] S = .ok (.lst ys) S) (hp : D.plainL 18 ys = true) (hl : ys.length ≤ 1000000) :
    LH.call P F (n + 1) iu [.lst xs] S = .ok (.lst (unl [] ys)) S := by
  have hp19 : D.plainL 19 ys = true := plainL_mono (by decide) hp
  obtain ⟨ρ', S', e, hf, ho, q, rfl⟩ := for_fix0 (g := .nm 2) (ys := ys) (body := semB (LH.call P F n) F gUnlikeB) (fun j ρ S' => S' = S ++ [.lst (unl [] (ys.take j))] ∧ True ∧ ∃ q, ρ = [some (.lst xs), some (.ref S.length), q]) ys [some (.lst xs), some (.ref S.length), none] (S ++ [.lst []]) ⟨by simp [unl], trivial, _, rfl⟩ (by
    rintro j x ρ S' hx ⟨rfl, _, q, rfl⟩
    obtain ⟨hj, rfl⟩ := List.getElem?_eq_some_iff.mp hx
    have hS : (S ++ [.lst (unl [] (ys.take j))] : Store)[S.length]? = some (.lst (unl [] (ys.take j))) := by simp
    have hpa : D.plainL 19 (unl [] (ys.take j)) = true := plainL_iff.mpr fun d hd => by
      rcases unl_sub d hd with h | h
      · simp at h
      · exact plainL_iff.mp hp19 d (List.mem_of_mem_take h)
    have hla : (unl [] (ys.take j)).length ≤ 1000000 := by
      have := unl_len (ys.take j) []
      rw [List.length_take] at this
      simp at this
      omega
    have hn := notin_live hS hpa (plainL_iff.mp hp19 _ (List.getElem_mem hj))
    have et : unl [] (ys.take (j + 1)) = unl1 (unl [] (ys.take j)) ys[j] := by rw [List.take_succ_eq_append_getElem hj, unl_snoc]
    have hrc := rcv_app hS
    have hap := app_ref hS (by simp only [lt_LMAX1]; omega) false ys[j]
    refine ⟨_, [some (.lst xs), some (.ref S.length), some ys[j]], S ++ [.lst (unl [] (ys.take (j + 1)))], rfl, .inl ?_, rfl, trivial, _, rfl⟩
    rw [et]
    unfold unl1
    generalize unl [] (ys.take j) = acc at *
    generalize ys[j] = x at *
    cases hb : acc.any fun z => eqD z x with
    | true =>
      rw [hb] at hn
      simp [gUnlikeB, hn]
    | false =>
      rw [hb] at hn
      have hset : (S ++ [Ob.lst acc]).set S.length (.lst (acc ++ [x])) = S ++ [.lst (acc ++ [x])] := by simp
      rw [hset] at hap
      simp [gUnlikeB, hn, hrc, hap])
  rw [List.take_length] at hf
  subst hf
  have hS : (S ++ [.lst (unl [] ys)] : Store)[S.length]? = some (.lst (unl [] ys)) := by simp
  have hpa : D.plainL 19 (unl [] ys) = true := plainL_iff.mpr fun d hd => by
    rcases unl_sub d hd with h | h
    · simp at h
    · exact plainL_iff.mp hp19 d h
  have hfin := fin_lst (Nat.le_refl S.length) hS hpa (fun i o hi ho => by
    rw [List.getElem?_append_left hi] at ho
    exact hC i o ho)
  have htk : (S ++ [.lst (unl [] ys)] : Store).take S.length = S := by simp
  rw [htk] at hfin
  rw [← hfin]
  refine call_rt hu rfl ?_
  have h1 : mkL true [] S = .ok (.ref S.length) (S ++ [.lst []]) := mkL_t _ _ (by simp)
  simp [gUnlike, startE, asg_nm, h1, hs, e]
end LH

namespace LH
open PySem hiding call truthy
open PySem.W L2 PySem.Spec PyProof.Rows
/-! ## exceptions that leave a frame; texts that repr writes -/
theorem call_ex {P : List Def} {F n i : Nat} {as : List D} {S S' : Store} {d : Def} {k : Nat} {v : D} {ρ : LH.Env} (hd : P[i]? = some d) (hl : as.length = d.pars) (h : semB (LH.call P F n) F d.body (startE d as) S = .ex k v ρ S') (hs : S'.length = S.length) : LH.call P F (n + 1) i as S = .ex k v S' := by
  simp only [LH.call, hd, if_pos hl, h, finX, finD]
  rw [hs]; simp
theorem strOk_app (a b : Str) : PyData.strOk (a ++ b) = (PyData.strOk a && PyData.strOk b) := by
  unfold PyData.strOk
  rw [Str.cps_append]
  simp [Array.all_append]
theorem strOk_join (s : Str) (hs : PyData.strOk s = true) : ∀ xs : List Str, (∀ x ∈ xs, PyData.strOk x = true) → PyData.strOk (Str.join s xs) = true
  | [], _ => by show PyData.strOk Str.empty = true; decide +kernel
  | [x], h => h x List.mem_cons_self
  | x :: y :: r, h => by
    show PyData.strOk (x ++ s ++ Str.join s (y :: r)) = true
    rw [strOk_app, strOk_app, hs, h x List.mem_cons_self, strOk_join s hs (y :: r) fun z hz => h z (List.mem_cons_of_mem _ hz)]
    rfl
theorem strOk_int (i : Int) : PyData.strOk (PyData.shown (.int i)) = true := by
  unfold PyData.strOk
  rw [Array.all_eq_true_iff_forall_mem]
  intro c hc
  refine decide_eq_true ?_
  rcases Nat.lt_or_ge c 1114112 with h | h
  · exact h
  · exact absurd (show c ∈ (PyData.int i).shown.cps.toList from by simpa using hc) (shown_int_free' ⟨by omega, by omega⟩ i)
mutual
/-- what repr writes is a text of known signs -/
def D.so : D → Bool
  | .str x => PyData.strOk (PyData.shown (.str x))
  | .lst xs => D.soL xs
  | .tup xs => D.soL xs
  | .dct _ [] [] => true
  | .dct _ _ _ => false
  | _ => true
def D.soL : List D → Bool
  | [] => true
  | x :: xs => D.so x && D.soL xs
end
mutual
theorem so_ok : ∀ {d : D}, d.so = true → PyData.strOk (PyData.shown d.py) = true
  | .non, _ => by decide +kernel
  | .bl b, _ => by cases b <;> decide +kernel
  | .int i, _ => strOk_int i
  | .str x, h => h
  | .lst xs, h => by
    show PyData.strOk (PyData.shown (.list (D.pyL xs))) = true
    rw [PyData.shown_list, strOk_app, strOk_app, strOk_join ", " (by decide +kernel) _ (soL_ok h)]
    decide +kernel
  | .tup xs, h => by
    show PyData.strOk (PyData.shown (.tuple (D.pyL xs))) = true
    rw [PyData.shown_tuple, strOk_app, strOk_app, strOk_join ", " (by decide +kernel) _ (soL_ok h)]
    split <;> decide +kernel
  | .dct _ [] [], _ => by
    show PyData.strOk (PyData.shown (.dict [])) = true
    decide +kernel
  | .dct _ (_ :: _) _, h => by cases h
  | .dct _ [] (_ :: _), h => by cases h
  | .ref _, _ => by show PyData.strOk (PyData.shown .none) = true; decide +kernel
  | .fn _, _ => by show PyData.strOk (PyData.shown .none) = true; decide +kernel
  | .exc _ _, _ => by show PyData.strOk (PyData.shown .none) = true; decide +kernel
  | .scr _, _ => by show PyData.strOk (PyData.shown .none) = true; decide +kernel
theorem soL_ok : ∀ {xs : List D}, D.soL xs = true → ∀ x ∈ PyData.shownAll (D.pyL xs), PyData.strOk x = true
  | [], _ => by intro x hx; rw [D.pyL, PyData.shownAll_nil] at hx; cases hx
  | d :: ds, h => by
    have h : d.so = true ∧ D.soL ds = true := by simpa [D.soL] using h
    intro x hx
    rw [D.pyL, PyData.shownAll_cons] at hx
    rcases List.mem_cons.mp hx with rfl | hx
    · exact so_ok h.1
    · exact soL_ok h.2 x hx
end
@[simp] theorem isx_non (c : Option Nat) : isxD c .non = some false := id rfl
@[simp] theorem isx_none (k : Nat) (v : D) : isxD none (.exc k v) = some true := id rfl
@[simp] theorem isx_zero (k : Nat) (v : D) : isxD (some 0) (.exc k v) = some true := id rfl
@[simp] theorem isx_own (k j : Nat) (v : D) : isxD (some (j + 1)) (.exc k v) = some (decide (k = j + 1)) := id rfl
@[simp] theorem e_isEN (S : Store) (k : Nat) (v : D) : cmpD S .is_ (.exc k v) .non = some false := by rfl
@[simp] theorem e_isnEN (S : Store) (k : Nat) (v : D) : cmpD S .isnot (.exc k v) .non = some true := by rfl
/-- plain data against each other -/
theorem eq_plain {S : Store} {a b : D} (ha : a.plain 20 = true) (hb : b.plain 20 = true) : cmpD S .eq a b = some (eqD a b) ∧ cmpD S .ne a b = some (!eqD a b) := by
  have h1 : cmpEq S a b = some (eqD a b) := by
    have r1 : rd S a = some a := rd_plain' ha
    have r2 : rd S b = some b := rd_plain' hb
    have ha' : a.plain DEEP = true := ha
    have hb' : b.plain DEEP = true := hb
    unfold cmpEq
    split
    · simp [eqD, Bool.beq_eq_decide_eq]
    · simp [eqD]
    · simp [eqD]
    · simp [eqD]
    · simp [r1, r2, ha', hb']
  exact ⟨h1, by show (cmpEq S a b).map (!·) = _; rw [h1]; rfl⟩
end LH

namespace LW
open PySem PySem.W L2 PySem.Spec PyProof.Rows LH
def c_is_whole : Def := ⟨1, 1, false,
    (.cons (.ret (.and (.isi (.loc 0) [.int] true) (.not (.isi (.loc 0) [.bool] true))))
    .nil)⟩
def c_check_list : Def := ⟨1, 1, false,
    (.cons (.ifs (.not (.isi (.loc 0) [.list] true)) (.cons (.raise 5 (.cons (.loc 0) .nil))
    .nil) .nil)
    .nil)⟩
def c_common_of_t0 : E := (.cmp .gt (.loc 1) (.cst (.int 0)))
def c_common_of_b0 : B := (.cons (.par [0, 1] (.cons (.loc 1) (.cons (.bin false .mod (.loc 0) (.loc 1)) .nil)))
    .nil)
def c_common_of : Def := ⟨2, 2, false,
    (.cons (.par [0, 1] (.cons (.bi false .abs (.cons (.loc 0) .nil)) (.cons (.bi false .abs (.cons (.loc 1) .nil)) .nil)))
    (.cons (.while_ c_common_of_t0 c_common_of_b0)
    (.cons (.ret (.loc 0))
    .nil)))⟩
def c_is_fraction : Def := ⟨1, 1, false,
    (.cons (.ifs (.or (.not (.isi (.loc 0) [.tuple] true)) (.or (.cmp .ne (.bi false .len (.cons (.loc 0) .nil)) (.cst (.int 2))) (.or (.not (.call 0 (.cons (.ix (.loc 0) (.cst (.int 0))) .nil))) (.not (.call 0 (.cons (.ix (.loc 0) (.cst (.int 1))) .nil)))))) (.cons (.ret (.cst (.bool false)))
    .nil) .nil)
    (.cons (.ret (.and (.cmp .ge (.ix (.loc 0) (.cst (.int 1))) (.cst (.int 1))) (.cmp .eq (.call 2 (.cons (.ix (.loc 0) (.cst (.int 0))) (.cons (.ix (.loc 0) (.cst (.int 1))) .nil))) (.cst (.int 1)))))
    .nil))⟩
def c_check_fraction : Def := ⟨1, 1, false,
    (.cons (.ifs (.not (.call 3 (.cons (.loc 0) .nil))) (.cons (.raise 3 (.cons (.loc 0) .nil))
    .nil) .nil)
    .nil)⟩
def c_lowest_of : Def := ⟨3, 2, false,
    (.cons (.asg (.nm 2) (.call 2 (.cons (.loc 0) (.cons (.loc 1) .nil))))
    (.cons (.ifs (.cmp .lt (.loc 1) (.cst (.int 0))) (.cons (.asg (.nm 2) (.bin false .sub (.cst (.int 0)) (.loc 2)))
    .nil) .nil)
    (.cons (.ret (.tup (.cons (.bin false .fdiv (.loc 0) (.loc 2)) (.cons (.bin false .fdiv (.loc 1) (.loc 2)) .nil))))
    .nil)))⟩
def c_fraction_of : Def := ⟨2, 2, false,
    (.cons (.ifs (.not (.call 0 (.cons (.loc 0) .nil))) (.cons (.raise 2 (.cons (.loc 0) .nil))
    .nil) .nil)
    (.cons (.ifs (.or (.not (.call 0 (.cons (.loc 1) .nil))) (.cmp .eq (.loc 1) (.cst (.int 0)))) (.cons (.raise 2 (.cons (.loc 1) .nil))
    .nil) .nil)
    (.cons (.ret (.call 5 (.cons (.loc 0) (.cons (.loc 1) .nil))))
    .nil)))⟩
def c_plus_of : Def := ⟨2, 2, false,
    (.cons (.ret (.call 5 (.cons (.bin false .add (.bin false .mul (.ix (.loc 0) (.cst (.int 0))) (.ix (.loc 1) (.cst (.int 1)))) (.bin false .mul (.ix (.loc 1) (.cst (.int 0))) (.ix (.loc 0) (.cst (.int 1))))) (.cons (.bin false .mul (.ix (.loc 0) (.cst (.int 1))) (.ix (.loc 1) (.cst (.int 1)))) .nil))))
    .nil)⟩
def c_times_of : Def := ⟨2, 2, false,
    (.cons (.ret (.call 5 (.cons (.bin false .mul (.ix (.loc 0) (.cst (.int 0))) (.ix (.loc 1) (.cst (.int 0)))) (.cons (.bin false .mul (.ix (.loc 0) (.cst (.int 1))) (.ix (.loc 1) (.cst (.int 1)))) .nil))))
    .nil)⟩
def c_less_than : Def := ⟨2, 2, false,
    (.cons (.ret (.cmp .lt (.bin false .mul (.ix (.loc 0) (.cst (.int 0))) (.ix (.loc 1) (.cst (.int 1)))) (.bin false .mul (.ix (.loc 1) (.cst (.int 0))) (.ix (.loc 0) (.cst (.int 1))))))
    .nil)⟩
def c_check_fractions_b0 : B := (.cons (.exp (.call 4 (.cons (.loc 1) .nil)))
    .nil)
def c_check_fractions : Def := ⟨2, 1, false,
    (.cons (.exp (.call 1 (.cons (.loc 0) .nil)))
    (.cons (.for_ (.nm 1) (.it (.loc 0)) c_check_fractions_b0)
    .nil))⟩
def c_sum_of_b0 : B := (.cons (.asg (.nm 1) (.call 7 (.cons (.loc 1) (.cons (.loc 2) .nil))))
    .nil)
def c_sum_of : Def := ⟨3, 1, false,
    (.cons (.exp (.call 10 (.cons (.loc 0) .nil)))
    (.cons (.asg (.nm 1) (.tup (.cons (.cst (.int 0)) (.cons (.cst (.int 1)) .nil))))
    (.cons (.for_ (.nm 2) (.it (.loc 0)) c_sum_of_b0)
    (.cons (.ret (.loc 1))
    .nil))))⟩
def c_product_of_b0 : B := (.cons (.asg (.nm 1) (.call 8 (.cons (.loc 1) (.cons (.loc 2) .nil))))
    .nil)
def c_product_of : Def := ⟨3, 1, false,
    (.cons (.exp (.call 10 (.cons (.loc 0) .nil)))
    (.cons (.asg (.nm 1) (.tup (.cons (.cst (.int 1)) (.cons (.cst (.int 1)) .nil))))
    (.cons (.for_ (.nm 2) (.it (.loc 0)) c_product_of_b0)
    (.cons (.ret (.loc 1))
    .nil))))⟩
def c_is_less : Def := ⟨2, 2, false,
    (.cons (.exp (.call 4 (.cons (.loc 0) .nil)))
    (.cons (.exp (.call 4 (.cons (.loc 1) .nil)))
    (.cons (.ret (.call 9 (.cons (.loc 0) (.cons (.loc 1) .nil))))
    .nil)))⟩
def c_law_hash : Def := ⟨3, 2, false,
    (.cons (.asg (.nm 2) (.bin false .mod (.bi false .int (.cons (.bin false .add (.bin false .add (.bin false .add (.bin false .mul (.loc 0) (.cst (.int 1140671))) (.bin false .mul (.bin false .mul (.cst (.int 27644437)) (.loc 1)) (.loc 1))) (.bin false .mul (.cst (.int 131)) (.loc 1))) (.cst (.int 19))) .nil)) (.cst (.int 2147483629))))
    (.cons (.asg (.nm 2) (.bin false .mod (.bi false .int (.cons (.bin false .add (.bin false .add (.bin false .mul (.loc 2) (.loc 2)) (.bin false .mul (.cst (.int 62089)) (.loc 1))) (.cst (.int 32416187))) .nil)) (.cst (.int 2147483587))))
    (.cons (.ret (.bin false .mod (.bi false .int (.cons (.bin false .mul (.loc 2) (.cst (.int 48271))) .nil)) (.cst (.int 2147483647))))
    .nil)))⟩
def c_law_cell : Def := ⟨2, 2, false,
    (.cons (.ifs (.cmp .lt (.loc 1) (.bi false .len (.cons (.loc 0) .nil))) (.cons (.ret (.ix (.loc 0) (.loc 1)))
    .nil) .nil)
    (.cons (.ret (.bin false .mod (.bi false .sum (.cons (.sl false (.loc 0) .nop (.cst (.int 1))) .nil)) (.cst (.int 1000003))))
    .nil))⟩
def c_law_generator : Def := ⟨3, 2, true,
    (.cons (.asg (.nm 2) (.call 15 (.cons (.loc 0) (.cons (.loc 1) .nil))))
    (.cons (.ret (.lst true (.cons (.bin false .mod (.bi false .int (.cons (.bi false .max (.cons (.bin false .sub (.loc 2) (.bin false .pow (.cst (.int 10)) (.cst (.int 18)))) (.cons (.cst (.int 0)) .nil))) .nil)) (.bin false .pow (.bin false .pow (.cst (.int 10)) (.cst (.int 60))) (.cst (.int 10)))) (.cons (.bin false .mod (.bi false .int (.cons (.loc 2) .nil)) (.cst (.int 2147483647))) (.cons (.bin false .mul (.cst (.int 1000)) (.loc 1)) .nil)))))
    .nil))⟩
def c_law_random_b0 : B := (.cons (.put (.loc 0) (.cst (.int 2)) (.bin false .add (.ix (.loc 0) (.cst (.int 2))) (.cst (.int 1))))
    (.cons (.asg (.nm 2) (.bin false .add (.bin false .mul (.loc 2) (.cst (.int 2147483587))) (.call 14 (.cons (.ix (.loc 0) (.cst (.int 1))) (.cons (.ix (.loc 0) (.cst (.int 2))) .nil)))))
    .nil))
def c_law_random : Def := ⟨4, 2, false,
    (.cons (.ifs (.cmp .gt (.ix (.loc 0) (.cst (.int 0))) (.cst (.int 0))) (.cons (.asg (.nm 2) (.bin false .mod (.bi false .int (.cons (.ix (.loc 0) (.cst (.int 0))) .nil)) (.loc 1)))
    (.cons (.put (.loc 0) (.cst (.int 0)) (.bin false .fdiv (.ix (.loc 0) (.cst (.int 0))) (.loc 1)))
    (.cons (.ret (.loc 2))
    .nil))) .nil)
    (.cons (.asg (.nm 2) (.cst (.int 0)))
    (.cons (.for_ (.nm 3) (.rng1 (.bin false .add (.cst (.int 1)) (.bin false .fdiv (.me false .bitlen (.loc 1) .nil) (.cst (.int 30))))) c_law_random_b0)
    (.cons (.ret (.bin false .mod (.bi false .int (.cons (.loc 2) .nil)) (.loc 1)))
    .nil))))⟩
def c_law_pick : Def := ⟨2, 2, false,
    (.cons (.ret (.ix (.loc 1) (.call 17 (.cons (.loc 0) (.cons (.bi false .len (.cons (.loc 1) .nil)) .nil)))))
    .nil)⟩
def c_law_call : Def := ⟨3, 2, false,
    (.cons (.ifs (.cmp .eq (.loc 0) (.cst (.int 0))) (.cons (.ret (.call 6 (.cons (.loc 1) (.cons (.cst (.int 0)) .nil))))
    .nil) .nil)
    (.cons (.ifs (.cmp .eq (.loc 0) (.cst (.int 1))) (.cons (.ret (.call 6 (.cons (.cst (.int 3)) (.cons (.loc 1) .nil))))
    .nil) .nil)
    (.cons (.ifs (.cmp .eq (.loc 0) (.cst (.int 2))) (.cons (.ret (.call 11 (.cons (.loc 1) .nil)))
    .nil) .nil)
    (.cons (.ifs (.cmp .eq (.loc 0) (.cst (.int 3))) (.cons (.ret (.call 11 (.cons (.lst false (.cons (.tup (.cons (.cst (.int 1)) (.cons (.cst (.int 2)) .nil))) (.cons (.loc 1) (.cons (.cst .none) .nil)))) .nil)))
    .nil) .nil)
    (.cons (.ifs (.cmp .eq (.loc 0) (.cst (.int 4))) (.cons (.ret (.call 12 (.cons (.loc 1) .nil)))
    .nil) .nil)
    (.cons (.ifs (.cmp .eq (.loc 0) (.cst (.int 5))) (.cons (.ret (.call 12 (.cons (.lst false (.cons (.tup (.cons (.cst (.int 3)) (.cons (.cst (.int 1)) .nil))) (.cons (.tup (.cons (.cst (.int 0)) (.cons (.cst (.int 1)) .nil))) (.cons (.loc 1) (.cons (.tup (.cons (.cst (.int 2)) (.cons (.cst (.int 4)) .nil))) .nil))))) .nil)))
    .nil) .nil)
    (.cons (.ifs (.cmp .eq (.loc 0) (.cst (.int 6))) (.cons (.ret (.call 13 (.cons (.loc 1) (.cons (.cst .none) .nil))))
    .nil) .nil)
    (.cons (.ifs (.cmp .eq (.loc 0) (.cst (.int 7))) (.cons (.ret (.call 13 (.cons (.tup (.cons (.cst (.int 1)) (.cons (.cst (.int 2)) .nil))) (.cons (.loc 1) .nil))))
    .nil) .nil)
    (.cons (.ifs (.cmp .eq (.loc 0) (.cst (.int 8))) (.cons (.ret (.call 6 (.cons (.cst (.int 0)) (.cons (.loc 1) .nil))))
    .nil) .nil)
    (.cons (.asg (.nm 2) (.bin false .add (.bin false .add (.bin false .mul (.lst false (.cons (.tup (.cons (.cst (.int 1)) (.cons (.cst (.int 3)) .nil))) .nil)) (.ix (.loc 1) (.cst (.int 1)))) (.lst false (.cons (.ix (.loc 1) (.cst (.int 0))) .nil))) (.bin false .mul (.lst false (.cons (.tup (.cons (.cst (.int 1)) (.cons (.cst (.int 3)) .nil))) .nil)) (.bin false .sub (.cst (.int 12)) (.ix (.loc 1) (.cst (.int 1)))))))
    (.cons (.reti (.cmp .eq (.loc 0) (.cst (.int 9))) (.call 11 (.cons (.loc 2) .nil)) (.call 12 (.cons (.loc 2) .nil)))
    .nil)))))))))))⟩
def c_law_caught_y0 : B := (.cons (.exp (.call 19 (.cons (.loc 0) (.cons (.loc 1) .nil))))
    .nil)
def c_law_caught : Def := ⟨5, 2, false,
    (.cons (.asg (.nm 2) (.cst .none))
    (.cons (.try_ c_law_caught_y0 0 3 2 false)
    (.cons (.asg (.nm 4) (.lst false (.cons (.isx (.loc 2) (some 2)) (.cons (.isx (.loc 2) (some 5)) (.cons (.isx (.loc 2) (some 3)) .nil)))))
    (.cons (.ret (.lst false (.cons (.loc 4) (.cons (.ite (.cmp .is_ (.loc 2) (.cst .none)) (.cst .none) (.bi false .repr (.cons (.val (.loc 2)) .nil))) .nil))))
    .nil))))⟩
def c_law_alone_y0 : B := (.cons (.exp (.cv [((Str.ofString "sum_of"), 11), ((Str.ofString "product_of"), 12)] (.loc 0) (.cons (.lst false (.cons (.loc 1) .nil)) .nil)))
    .nil)
def c_law_alone : Def := ⟨4, 2, false,
    (.cons (.asg (.nm 2) (.cst .none))
    (.cons (.try_ c_law_alone_y0 0 3 2 false)
    (.cons (.ret (.and (.isx (.loc 2) (some 3)) (.cmp .eq (.val (.loc 2)) (.loc 1))))
    .nil)))⟩
def c_law_b0 : B := (.cons (.ifs (.cmp .ne (.call 20 (.cons (.loc 7) (.cons (.loc 9) .nil))) (.lst false (.cons (.bin false .mul (.lst false (.cons (.cst (.bool false)) .nil)) (.cst (.int 3))) (.cons (.cst .none) .nil)))) (.cons (.ret (.cst (.bool false)))
    .nil) .nil)
    .nil)
def c_law_b1 : B := (.cons (.ifs (.not (.call 21 (.cons (.loc 6) (.cons (.tup (.cons (.cst (.int 2)) (.cons (.cst (.int 4)) .nil))) .nil)))) (.cons (.ret (.cst (.bool false)))
    .nil) .nil)
    .nil)
def c_law_b2 : B := (.cons (.ifs (.cmp .ne (.call 20 (.cons (.loc 7) (.cons (.tup (.cons (.loc 5) (.cons (.call 18 (.cons (.loc 2) (.cons (.lst false (.cons (.cst (.int 0)) (.cons (.cst (.int 12)) (.cons (.call 17 (.cons (.loc 2) (.cons (.cst (.int 13)) .nil))) .nil)))) .nil))) .nil))) .nil))) (.lst false (.cons (.lst false (.cons (.cst (.bool false)) (.cons (.cst (.bool false)) (.cons (.cst (.bool true)) .nil)))) (.cons (.bi false .repr (.cons (.loc 5) .nil)) .nil)))) (.cons (.ret (.cst (.bool false)))
    .nil) .nil)
    .nil)
def c_law_b3 : B := (.cons (.for_ (.nm 7) (.it (.lst false (.cons (.cst (.int 9)) (.cons (.cst (.int 10)) .nil)))) c_law_b2)
    .nil)
def c_law_b4 : B := (.cons (.ifs (.cmp .ne (.call 20 (.cons (.cst (.int 8)) (.cons (.loc 5) .nil))) (.lst false (.cons (.lst false (.cons (.cst (.bool true)) (.cons (.cst (.bool false)) (.cons (.cst (.bool false)) .nil)))) (.cons (.bi false .repr (.cons (.loc 5) .nil)) .nil)))) (.cons (.ret (.cst (.bool false)))
    .nil) .nil)
    .nil)
def c_law_e0 : E := (.cmp .eq (.loc 10) (.loc 8))
def c_law_b5 : B := (.cons (.ifs (.or (.cmp .ne (.loc 8) (.cst (.int 1))) (.not (.isi (.loc 5) [.list] true))) (.cons (.ifs (.cmp .ne (.call 20 (.cons (.loc 7) (.cons (.loc 5) .nil))) (.lst false (.cons (.lc false [((Str.ofString "at"), 10)] c_law_e0 (.nm 10) (.rng1 (.cst (.int 3))) .nil) (.cons (.bi false .repr (.cons (.loc 5) .nil)) .nil)))) (.cons (.ret (.cst (.bool false)))
    .nil) .nil)
    .nil) .nil)
    .nil)
def c_law_b6 : B := (.cons (.for_ (.nm 5) (.it (.bin false .add (.bin false .add (.loc 4) (.ite (.cmp .eq (.loc 7) (.cst (.int 1))) (.lst false (.cons (.cst (.int 0)) .nil)) (.lst false .nil))) (.ite (.cmp .gt (.loc 8) (.cst (.int 0))) (.lst false (.cons (.loc 3) (.cons (.bin false .sub (.cst (.int 0)) (.loc 3)) (.cons (.cst (.int 0)) .nil)))) (.lst false .nil)))) c_law_b5)
    .nil)
def c_law_e1 : E := (.loc 5)
def c_law_q0 : EL := (.cons (.cmp .ne (.bi false .repr (.cons (.loc 5) .nil)) (.cst (.str ⟨#[40, 49, 44, 32, 49, 41]⟩))) .nil)
def c_law_b7 : B := (.cons (.asg (.nm 2) (.call 16 (.cons (.loc 0) (.cons (.loc 1) .nil))))
    (.cons (.asg (.nm 3) (.bin false .add (.cst (.int 1)) (.call 17 (.cons (.loc 2) (.cons (.bin false .pow (.cst (.int 10)) (.cst (.int 9))) .nil)))))
    (.cons (.asg (.nm 4) (.lst false (.cons (.cst .none) (.cons (.cst (.bool true)) (.cons (.cst (.bool false)) (.cons (.cst (.str ⟨#[]⟩)) (.cons (.cst (.str ⟨#[49]⟩)) (.cons (.dct false false) (.cons (.tup .nil) (.cons (.tup (.cons (.cst (.str ⟨#[97]⟩)) .nil)) (.cons (.lst false (.cons (.cst (.int 1)) (.cons (.cst (.int 2)) .nil))) (.cons (.tup (.cons (.cst (.int 1)) (.cons (.cst (.int 2)) (.cons (.cst (.int 3)) .nil)))) (.cons (.tup (.cons (.cst (.int 2)) (.cons (.cst (.int 4)) .nil))) (.cons (.tup (.cons (.cst (.int 1)) (.cons (.cst (.int 0)) .nil))) (.cons (.tup (.cons (.cst (.int 1)) (.cons (.bin false .sub (.cst (.int 0)) (.cst (.int 2))) .nil))) (.cons (.tup (.cons (.cst (.int 0)) (.cons (.cst (.int 2)) .nil))) (.cons (.tup (.cons (.cst (.bool true)) (.cons (.cst (.int 2)) .nil))) (.cons (.tup (.cons (.cst (.int 1)) (.cons (.cst (.bool true)) .nil))) (.cons (.tup (.cons (.loc 3) (.cons (.loc 3) .nil))) (.cons (.tup (.cons (.bin false .mul (.loc 3) (.cst (.int 2))) (.cons (.cst (.int 2)) .nil))) .nil))))))))))))))))))))
    (.cons (.asg (.nm 4) (.lc false [((Str.ofString "odd"), 5)] c_law_e1 (.nm 5) (.it (.loc 4)) c_law_q0))
    (.cons (.for_ (.tp (.cons (.nm 7) (.cons (.nm 8) .nil))) (.enum (.lst false (.cons (.cst (.int 0)) (.cons (.cst (.int 0)) (.cons (.cst (.int 1)) (.cons (.cst (.int 2)) (.cons (.cst (.int 1)) (.cons (.cst (.int 2)) (.cons (.cst (.int 2)) (.cons (.cst (.int 2)) .nil)))))))))) c_law_b6)
    (.cons (.for_ (.nm 5) (.it (.lst false (.cons (.cst (.int 0)) (.cons (.cst .none) (.cons (.cst (.bool true)) (.cons (.cst (.str ⟨#[48]⟩)) (.cons (.lst false (.cons (.cst (.int 0)) .nil)) .nil))))))) c_law_b4)
    (.cons (.for_ (.nm 5) (.it (.bin false .add (.loc 4) (.lst false (.cons (.loc 3) .nil)))) c_law_b3)
    (.cons (.for_ (.nm 6) (.it (.lst false (.cons (.fnv (Str.ofString "sum_of")) (.cons (.fnv (Str.ofString "product_of")) .nil)))) c_law_b1)
    (.cons (.for_ (.tp (.cons (.nm 7) (.cons (.nm 9) .nil))) (.it (.lst false (.cons (.tup (.cons (.cst (.int 1)) (.cons (.bin false .sub (.cst (.int 0)) (.loc 3)) .nil))) (.cons (.tup (.cons (.cst (.int 2)) (.cons (.lst false (.cons (.tup (.cons (.loc 3) (.cons (.cst (.int 1)) .nil))) .nil)) .nil))) .nil)))) c_law_b0)
    (.cons (.ifs (.cmp .ne (.call 20 (.cons (.cst (.int 3)) (.cons (.tup (.cons (.loc 3) (.cons (.cst (.int 1)) .nil))) .nil))) (.lst false (.cons (.lst false (.cons (.cst (.bool false)) (.cons (.cst (.bool false)) (.cons (.cst (.bool true)) .nil)))) (.cons (.bi false .repr (.cons (.cst .none) .nil)) .nil)))) (.cons (.ret (.cst (.bool false)))
    .nil) .nil)
    .nil))))))))))
def c_law : Def := ⟨11, 1, false,
    (.cons (.for_ (.nm 1) (.rng1 (.cst (.int 3))) c_law_b7)
    (.cons (.ret (.cst (.bool true)))
    .nil))⟩
def prog : List Def := [c_is_whole, c_check_list, c_common_of, c_is_fraction, c_check_fraction, c_lowest_of, c_fraction_of, c_plus_of, c_times_of, c_less_than, c_check_fractions, c_sum_of, c_product_of, c_is_less, c_law_hash, c_law_cell, c_law_generator, c_law_random, c_law_pick, c_law_call, c_law_caught, c_law_alone, c_law]
def top (j : Nat) : Stmt := PySem.Challenge.pw_lottohouse_k04_fractions_refused.main.body.getD j (.Pass ⟨0, 0, 0, 0⟩)
def mc0 : MC := ⟨[], defScope (top 0), fun _ => true, [((Str.ofString "is_whole"), 0), ((Str.ofString "check_list"), 1), ((Str.ofString "common_of"), 2), ((Str.ofString "is_fraction"), 3), ((Str.ofString "check_fraction"), 4), ((Str.ofString "lowest_of"), 5), ((Str.ofString "fraction_of"), 6), ((Str.ofString "plus_of"), 7), ((Str.ofString "times_of"), 8), ((Str.ofString "less_than"), 9), ((Str.ofString "check_fractions"), 10), ((Str.ofString "sum_of"), 11), ((Str.ofString "product_of"), 12), ((Str.ofString "is_less"), 13), ((Str.ofString "_law_hash"), 14), ((Str.ofString "_law_cell"), 15), ((Str.ofString "_law_generator"), 16), ((Str.ofString "_law_random"), 17), ((Str.ofString "_law_pick"), 18), ((Str.ofString "_law_call"), 19), ((Str.ofString "_law_caught"), 20), ((Str.ofString "_law_alone"), 21), ((Str.ofString "law"), 22)], [], [], [], [(Str.ofString "abs"), (Str.ofString "bool"), (Str.ofString "enumerate"), (Str.ofString "int"), (Str.ofString "isinstance"), (Str.ofString "len"), (Str.ofString "list"), (Str.ofString "max"), (Str.ofString "range"), (Str.ofString "repr"), (Str.ofString "sum"), (Str.ofString "tuple")], [0, 2, 3, 5]⟩
def xini : Stmt := match top 1 with
  | .ClassDef _ _ _ (s :: _) _ _ _ _ _ _ _ => s
  | s => s
theorem sc0 : FnScope ["value"] ["value"] (defScope (top 6)) := ⟨rfl, rfl, rfl, by decide +kernel, rfl, by decide +kernel, by decide +kernel⟩
theorem mt0 : mB (mc0.at ["value"] (defScope (top 6))) c_is_whole.body (defBody (top 6)) = true := by decide +kernel
theorem kw0 : ∀ n ks p, (0, n, ks, p) ∈ mc0.kw → ∀ (kV doc pm : Value) (an : Option Addr) (cdv ct : Value) (us ws : List Value), us.length = n → ws.length = ks.length → bindArgs (fnOf "is_whole" "is_whole" (defArgs (top 6)) (defBody (top 6)) (defScope (top 6)) .none kV doc pm an cdv ct) ⟨us, ks.zip ws⟩ = pure ((["value"] : List Str).zip (p.filterMap fun i => (us ++ ws)[i]?)) := by
  intro n ks p hm
  exact absurd (show (0 : Nat) ∈ mc0.kw.map (fun e => e.1) from List.mem_map_of_mem (f := fun e => e.1) hm) (by decide +kernel)
theorem sc1 : FnScope ["value"] ["value"] (defScope (top 7)) := ⟨rfl, rfl, rfl, by decide +kernel, rfl, by decide +kernel, by decide +kernel⟩
theorem mt1 : mB (mc0.at ["value"] (defScope (top 7))) c_check_list.body (defBody (top 7)) = true := by decide +kernel
theorem kw1 : ∀ n ks p, (1, n, ks, p) ∈ mc0.kw → ∀ (kV doc pm : Value) (an : Option Addr) (cdv ct : Value) (us ws : List Value), us.length = n → ws.length = ks.length → bindArgs (fnOf "check_list" "check_list" (defArgs (top 7)) (defBody (top 7)) (defScope (top 7)) .none kV doc pm an cdv ct) ⟨us, ks.zip ws⟩ = pure ((["value"] : List Str).zip (p.filterMap fun i => (us ++ ws)[i]?)) := by
  intro n ks p hm
  exact absurd (show (1 : Nat) ∈ mc0.kw.map (fun e => e.1) from List.mem_map_of_mem (f := fun e => e.1) hm) (by decide +kernel)
theorem sc2 : FnScope ["one", "other"] ["one", "other"] (defScope (top 9)) := ⟨rfl, rfl, rfl, by decide +kernel, rfl, by decide +kernel, by decide +kernel⟩
theorem mt2 : mB (mc0.at ["one", "other"] (defScope (top 9))) c_common_of.body (defBody (top 9)) = true := by decide +kernel
theorem kw2 : ∀ n ks p, (2, n, ks, p) ∈ mc0.kw → ∀ (kV doc pm : Value) (an : Option Addr) (cdv ct : Value) (us ws : List Value), us.length = n → ws.length = ks.length → bindArgs (fnOf "common_of" "common_of" (defArgs (top 9)) (defBody (top 9)) (defScope (top 9)) .none kV doc pm an cdv ct) ⟨us, ks.zip ws⟩ = pure ((["one", "other"] : List Str).zip (p.filterMap fun i => (us ++ ws)[i]?)) := by
  intro n ks p hm
  exact absurd (show (2 : Nat) ∈ mc0.kw.map (fun e => e.1) from List.mem_map_of_mem (f := fun e => e.1) hm) (by decide +kernel)
theorem sc3 : FnScope ["value"] ["value"] (defScope (top 10)) := ⟨rfl, rfl, rfl, by decide +kernel, rfl, by decide +kernel, by decide +kernel⟩
theorem mt3 : mB (mc0.at ["value"] (defScope (top 10))) c_is_fraction.body (defBody (top 10)) = true := by decide +kernel
theorem kw3 : ∀ n ks p, (3, n, ks, p) ∈ mc0.kw → ∀ (kV doc pm : Value) (an : Option Addr) (cdv ct : Value) (us ws : List Value), us.length = n → ws.length = ks.length → bindArgs (fnOf "is_fraction" "is_fraction" (defArgs (top 10)) (defBody (top 10)) (defScope (top 10)) .none kV doc pm an cdv ct) ⟨us, ks.zip ws⟩ = pure ((["value"] : List Str).zip (p.filterMap fun i => (us ++ ws)[i]?)) := by
  intro n ks p hm
  exact absurd (show (3 : Nat) ∈ mc0.kw.map (fun e => e.1) from List.mem_map_of_mem (f := fun e => e.1) hm) (by decide +kernel)
theorem sc4 : FnScope ["value"] ["value"] (defScope (top 11)) := ⟨rfl, rfl, rfl, by decide +kernel, rfl, by decide +kernel, by decide +kernel⟩
theorem mt4 : mB (mc0.at ["value"] (defScope (top 11))) c_check_fraction.body (defBody (top 11)) = true := by decide +kernel
theorem kw4 : ∀ n ks p, (4, n, ks, p) ∈ mc0.kw → ∀ (kV doc pm : Value) (an : Option Addr) (cdv ct : Value) (us ws : List Value), us.length = n → ws.length = ks.length → bindArgs (fnOf "check_fraction" "check_fraction" (defArgs (top 11)) (defBody (top 11)) (defScope (top 11)) .none kV doc pm an cdv ct) ⟨us, ks.zip ws⟩ = pure ((["value"] : List Str).zip (p.filterMap fun i => (us ++ ws)[i]?)) := by
  intro n ks p hm
  exact absurd (show (4 : Nat) ∈ mc0.kw.map (fun e => e.1) from List.mem_map_of_mem (f := fun e => e.1) hm) (by decide +kernel)
theorem sc5 : FnScope ["above", "below", "part"] ["above", "below"] (defScope (top 12)) := ⟨rfl, rfl, rfl, by decide +kernel, rfl, by decide +kernel, by decide +kernel⟩
theorem mt5 : mB (mc0.at ["above", "below", "part"] (defScope (top 12))) c_lowest_of.body (defBody (top 12)) = true := by decide +kernel
theorem kw5 : ∀ n ks p, (5, n, ks, p) ∈ mc0.kw → ∀ (kV doc pm : Value) (an : Option Addr) (cdv ct : Value) (us ws : List Value), us.length = n → ws.length = ks.length → bindArgs (fnOf "lowest_of" "lowest_of" (defArgs (top 12)) (defBody (top 12)) (defScope (top 12)) .none kV doc pm an cdv ct) ⟨us, ks.zip ws⟩ = pure ((["above", "below"] : List Str).zip (p.filterMap fun i => (us ++ ws)[i]?)) := by
  intro n ks p hm
  exact absurd (show (5 : Nat) ∈ mc0.kw.map (fun e => e.1) from List.mem_map_of_mem (f := fun e => e.1) hm) (by decide +kernel)
theorem sc6 : FnScope ["above", "below"] ["above", "below"] (defScope (top 13)) := ⟨rfl, rfl, rfl, by decide +kernel, rfl, by decide +kernel, by decide +kernel⟩
theorem mt6 : mB (mc0.at ["above", "below"] (defScope (top 13))) c_fraction_of.body (defBody (top 13)) = true := by decide +kernel
theorem kw6 : ∀ n ks p, (6, n, ks, p) ∈ mc0.kw → ∀ (kV doc pm : Value) (an : Option Addr) (cdv ct : Value) (us ws : List Value), us.length = n → ws.length = ks.length → bindArgs (fnOf "fraction_of" "fraction_of" (defArgs (top 13)) (defBody (top 13)) (defScope (top 13)) .none kV doc pm an cdv ct) ⟨us, ks.zip ws⟩ = pure ((["above", "below"] : List Str).zip (p.filterMap fun i => (us ++ ws)[i]?)) := by
  intro n ks p hm
  exact absurd (show (6 : Nat) ∈ mc0.kw.map (fun e => e.1) from List.mem_map_of_mem (f := fun e => e.1) hm) (by decide +kernel)
theorem sc7 : FnScope ["one", "other"] ["one", "other"] (defScope (top 14)) := ⟨rfl, rfl, rfl, by decide +kernel, rfl, by decide +kernel, by decide +kernel⟩
theorem mt7 : mB (mc0.at ["one", "other"] (defScope (top 14))) c_plus_of.body (defBody (top 14)) = true := by decide +kernel
theorem kw7 : ∀ n ks p, (7, n, ks, p) ∈ mc0.kw → ∀ (kV doc pm : Value) (an : Option Addr) (cdv ct : Value) (us ws : List Value), us.length = n → ws.length = ks.length → bindArgs (fnOf "plus_of" "plus_of" (defArgs (top 14)) (defBody (top 14)) (defScope (top 14)) .none kV doc pm an cdv ct) ⟨us, ks.zip ws⟩ = pure ((["one", "other"] : List Str).zip (p.filterMap fun i => (us ++ ws)[i]?)) := by
  intro n ks p hm
  exact absurd (show (7 : Nat) ∈ mc0.kw.map (fun e => e.1) from List.mem_map_of_mem (f := fun e => e.1) hm) (by decide +kernel)
theorem sc8 : FnScope ["one", "other"] ["one", "other"] (defScope (top 15)) := ⟨rfl, rfl, rfl, by decide +kernel, rfl, by decide +kernel, by decide +kernel⟩
theorem mt8 : mB (mc0.at ["one", "other"] (defScope (top 15))) c_times_of.body (defBody (top 15)) = true := by decide +kernel
theorem kw8 : ∀ n ks p, (8, n, ks, p) ∈ mc0.kw → ∀ (kV doc pm : Value) (an : Option Addr) (cdv ct : Value) (us ws : List Value), us.length = n → ws.length = ks.length → bindArgs (fnOf "times_of" "times_of" (defArgs (top 15)) (defBody (top 15)) (defScope (top 15)) .none kV doc pm an cdv ct) ⟨us, ks.zip ws⟩ = pure ((["one", "other"] : List Str).zip (p.filterMap fun i => (us ++ ws)[i]?)) := by
  intro n ks p hm
  exact absurd (show (8 : Nat) ∈ mc0.kw.map (fun e => e.1) from List.mem_map_of_mem (f := fun e => e.1) hm) (by decide +kernel)
theorem sc9 : FnScope ["one", "other"] ["one", "other"] (defScope (top 16)) := ⟨rfl, rfl, rfl, by decide +kernel, rfl, by decide +kernel, by decide +kernel⟩
theorem mt9 : mB (mc0.at ["one", "other"] (defScope (top 16))) c_less_than.body (defBody (top 16)) = true := by decide +kernel
theorem kw9 : ∀ n ks p, (9, n, ks, p) ∈ mc0.kw → ∀ (kV doc pm : Value) (an : Option Addr) (cdv ct : Value) (us ws : List Value), us.length = n → ws.length = ks.length → bindArgs (fnOf "less_than" "less_than" (defArgs (top 16)) (defBody (top 16)) (defScope (top 16)) .none kV doc pm an cdv ct) ⟨us, ks.zip ws⟩ = pure ((["one", "other"] : List Str).zip (p.filterMap fun i => (us ++ ws)[i]?)) := by
  intro n ks p hm
  exact absurd (show (9 : Nat) ∈ mc0.kw.map (fun e => e.1) from List.mem_map_of_mem (f := fun e => e.1) hm) (by decide +kernel)
theorem sc10 : FnScope ["fractions", "item"] ["fractions"] (defScope (top 17)) := ⟨rfl, rfl, rfl, by decide +kernel, rfl, by decide +kernel, by decide +kernel⟩
theorem mt10 : mB (mc0.at ["fractions", "item"] (defScope (top 17))) c_check_fractions.body (defBody (top 17)) = true := by decide +kernel
theorem kw10 : ∀ n ks p, (10, n, ks, p) ∈ mc0.kw → ∀ (kV doc pm : Value) (an : Option Addr) (cdv ct : Value) (us ws : List Value), us.length = n → ws.length = ks.length → bindArgs (fnOf "check_fractions" "check_fractions" (defArgs (top 17)) (defBody (top 17)) (defScope (top 17)) .none kV doc pm an cdv ct) ⟨us, ks.zip ws⟩ = pure ((["fractions"] : List Str).zip (p.filterMap fun i => (us ++ ws)[i]?)) := by
  intro n ks p hm
  exact absurd (show (10 : Nat) ∈ mc0.kw.map (fun e => e.1) from List.mem_map_of_mem (f := fun e => e.1) hm) (by decide +kernel)
theorem sc11 : FnScope ["fractions", "total", "item"] ["fractions"] (defScope (top 18)) := ⟨rfl, rfl, rfl, by decide +kernel, rfl, by decide +kernel, by decide +kernel⟩
theorem mt11 : mB (mc0.at ["fractions", "total", "item"] (defScope (top 18))) c_sum_of.body (defBody (top 18)) = true := by decide +kernel
theorem kw11 : ∀ n ks p, (11, n, ks, p) ∈ mc0.kw → ∀ (kV doc pm : Value) (an : Option Addr) (cdv ct : Value) (us ws : List Value), us.length = n → ws.length = ks.length → bindArgs (fnOf "sum_of" "sum_of" (defArgs (top 18)) (defBody (top 18)) (defScope (top 18)) .none kV doc pm an cdv ct) ⟨us, ks.zip ws⟩ = pure ((["fractions"] : List Str).zip (p.filterMap fun i => (us ++ ws)[i]?)) := by
  intro n ks p hm
  exact absurd (show (11 : Nat) ∈ mc0.kw.map (fun e => e.1) from List.mem_map_of_mem (f := fun e => e.1) hm) (by decide +kernel)
theorem sc12 : FnScope ["fractions", "total", "item"] ["fractions"] (defScope (top 19)) := ⟨rfl, rfl, rfl, by decide +kernel, rfl, by decide +kernel, by decide +kernel⟩
theorem mt12 : mB (mc0.at ["fractions", "total", "item"] (defScope (top 19))) c_product_of.body (defBody (top 19)) = true := by decide +kernel
theorem kw12 : ∀ n ks p, (12, n, ks, p) ∈ mc0.kw → ∀ (kV doc pm : Value) (an : Option Addr) (cdv ct : Value) (us ws : List Value), us.length = n → ws.length = ks.length → bindArgs (fnOf "product_of" "product_of" (defArgs (top 19)) (defBody (top 19)) (defScope (top 19)) .none kV doc pm an cdv ct) ⟨us, ks.zip ws⟩ = pure ((["fractions"] : List Str).zip (p.filterMap fun i => (us ++ ws)[i]?)) := by
  intro n ks p hm
  exact absurd (show (12 : Nat) ∈ mc0.kw.map (fun e => e.1) from List.mem_map_of_mem (f := fun e => e.1) hm) (by decide +kernel)
theorem sc13 : FnScope ["one", "other"] ["one", "other"] (defScope (top 20)) := ⟨rfl, rfl, rfl, by decide +kernel, rfl, by decide +kernel, by decide +kernel⟩
theorem mt13 : mB (mc0.at ["one", "other"] (defScope (top 20))) c_is_less.body (defBody (top 20)) = true := by decide +kernel
theorem kw13 : ∀ n ks p, (13, n, ks, p) ∈ mc0.kw → ∀ (kV doc pm : Value) (an : Option Addr) (cdv ct : Value) (us ws : List Value), us.length = n → ws.length = ks.length → bindArgs (fnOf "is_less" "is_less" (defArgs (top 20)) (defBody (top 20)) (defScope (top 20)) .none kV doc pm an cdv ct) ⟨us, ks.zip ws⟩ = pure ((["one", "other"] : List Str).zip (p.filterMap fun i => (us ++ ws)[i]?)) := by
  intro n ks p hm
  exact absurd (show (13 : Nat) ∈ mc0.kw.map (fun e => e.1) from List.mem_map_of_mem (f := fun e => e.1) hm) (by decide +kernel)
theorem sc14 : FnScope ["seed", "index", "mixed"] ["seed", "index"] (defScope (top 22)) := ⟨rfl, rfl, rfl, by decide +kernel, rfl, by decide +kernel, by decide +kernel⟩
theorem mt14 : mB (mc0.at ["seed", "index", "mixed"] (defScope (top 22))) c_law_hash.body (defBody (top 22)) = true := by decide +kernel
theorem kw14 : ∀ n ks p, (14, n, ks, p) ∈ mc0.kw → ∀ (kV doc pm : Value) (an : Option Addr) (cdv ct : Value) (us ws : List Value), us.length = n → ws.length = ks.length → bindArgs (fnOf "_law_hash" "_law_hash" (defArgs (top 22)) (defBody (top 22)) (defScope (top 22)) .none kV doc pm an cdv ct) ⟨us, ks.zip ws⟩ = pure ((["seed", "index"] : List Str).zip (p.filterMap fun i => (us ++ ws)[i]?)) := by
  intro n ks p hm
  exact absurd (show (14 : Nat) ∈ mc0.kw.map (fun e => e.1) from List.mem_map_of_mem (f := fun e => e.1) hm) (by decide +kernel)
theorem sc15 : FnScope ["script", "index"] ["script", "index"] (defScope (top 23)) := ⟨rfl, rfl, rfl, by decide +kernel, rfl, by decide +kernel, by decide +kernel⟩
theorem mt15 : mB (mc0.at ["script", "index"] (defScope (top 23))) c_law_cell.body (defBody (top 23)) = true := by decide +kernel
theorem kw15 : ∀ n ks p, (15, n, ks, p) ∈ mc0.kw → ∀ (kV doc pm : Value) (an : Option Addr) (cdv ct : Value) (us ws : List Value), us.length = n → ws.length = ks.length → bindArgs (fnOf "_law_cell" "_law_cell" (defArgs (top 23)) (defBody (top 23)) (defScope (top 23)) .none kV doc pm an cdv ct) ⟨us, ks.zip ws⟩ = pure ((["script", "index"] : List Str).zip (p.filterMap fun i => (us ++ ws)[i]?)) := by
  intro n ks p hm
  exact absurd (show (15 : Nat) ∈ mc0.kw.map (fun e => e.1) from List.mem_map_of_mem (f := fun e => e.1) hm) (by decide +kernel)
theorem sc16 : FnScope ["script", "index", "seed"] ["script", "index"] (defScope (top 24)) := ⟨rfl, rfl, rfl, by decide +kernel, rfl, by decide +kernel, by decide +kernel⟩
theorem mt16 : mB (mc0.at ["script", "index", "seed"] (defScope (top 24))) c_law_generator.body (defBody (top 24)) = true := by decide +kernel
theorem kw16 : ∀ n ks p, (16, n, ks, p) ∈ mc0.kw → ∀ (kV doc pm : Value) (an : Option Addr) (cdv ct : Value) (us ws : List Value), us.length = n → ws.length = ks.length → bindArgs (fnOf "_law_generator" "_law_generator" (defArgs (top 24)) (defBody (top 24)) (defScope (top 24)) .none kV doc pm an cdv ct) ⟨us, ks.zip ws⟩ = pure ((["script", "index"] : List Str).zip (p.filterMap fun i => (us ++ ws)[i]?)) := by
  intro n ks p hm
  exact absurd (show (16 : Nat) ∈ mc0.kw.map (fun e => e.1) from List.mem_map_of_mem (f := fun e => e.1) hm) (by decide +kernel)
theorem sc17 : FnScope ["generator", "bound", "drawn", "turn"] ["generator", "bound"] (defScope (top 25)) := ⟨rfl, rfl, rfl, by decide +kernel, rfl, by decide +kernel, by decide +kernel⟩
theorem mt17 : mB (mc0.at ["generator", "bound", "drawn", "turn"] (defScope (top 25))) c_law_random.body (defBody (top 25)) = true := by decide +kernel
theorem kw17 : ∀ n ks p, (17, n, ks, p) ∈ mc0.kw → ∀ (kV doc pm : Value) (an : Option Addr) (cdv ct : Value) (us ws : List Value), us.length = n → ws.length = ks.length → bindArgs (fnOf "_law_random" "_law_random" (defArgs (top 25)) (defBody (top 25)) (defScope (top 25)) .none kV doc pm an cdv ct) ⟨us, ks.zip ws⟩ = pure ((["generator", "bound"] : List Str).zip (p.filterMap fun i => (us ++ ws)[i]?)) := by
  intro n ks p hm
  exact absurd (show (17 : Nat) ∈ mc0.kw.map (fun e => e.1) from List.mem_map_of_mem (f := fun e => e.1) hm) (by decide +kernel)
theorem sc18 : FnScope ["generator", "things"] ["generator", "things"] (defScope (top 26)) := ⟨rfl, rfl, rfl, by decide +kernel, rfl, by decide +kernel, by decide +kernel⟩
theorem mt18 : mB (mc0.at ["generator", "things"] (defScope (top 26))) c_law_pick.body (defBody (top 26)) = true := by decide +kernel
theorem kw18 : ∀ n ks p, (18, n, ks, p) ∈ mc0.kw → ∀ (kV doc pm : Value) (an : Option Addr) (cdv ct : Value) (us ws : List Value), us.length = n → ws.length = ks.length → bindArgs (fnOf "_law_pick" "_law_pick" (defArgs (top 26)) (defBody (top 26)) (defScope (top 26)) .none kV doc pm an cdv ct) ⟨us, ks.zip ws⟩ = pure ((["generator", "things"] : List Str).zip (p.filterMap fun i => (us ++ ws)[i]?)) := by
  intro n ks p hm
  exact absurd (show (18 : Nat) ∈ mc0.kw.map (fun e => e.1) from List.mem_map_of_mem (f := fun e => e.1) hm) (by decide +kernel)
theorem sc19 : FnScope ["door", "other", "goods"] ["door", "other"] (defScope (top 27)) := ⟨rfl, rfl, rfl, by decide +kernel, rfl, by decide +kernel, by decide +kernel⟩
theorem mt19 : mB (mc0.at ["door", "other", "goods"] (defScope (top 27))) c_law_call.body (defBody (top 27)) = true := by decide +kernel
theorem kw19 : ∀ n ks p, (19, n, ks, p) ∈ mc0.kw → ∀ (kV doc pm : Value) (an : Option Addr) (cdv ct : Value) (us ws : List Value), us.length = n → ws.length = ks.length → bindArgs (fnOf "_law_call" "_law_call" (defArgs (top 27)) (defBody (top 27)) (defScope (top 27)) .none kV doc pm an cdv ct) ⟨us, ks.zip ws⟩ = pure ((["door", "other"] : List Str).zip (p.filterMap fun i => (us ++ ws)[i]?)) := by
  intro n ks p hm
  exact absurd (show (19 : Nat) ∈ mc0.kw.map (fun e => e.1) from List.mem_map_of_mem (f := fun e => e.1) hm) (by decide +kernel)
theorem sc20 : FnScope ["door", "other", "caught", "error", "kinds"] ["door", "other"] (defScope (top 28)) := ⟨rfl, rfl, rfl, by decide +kernel, rfl, by decide +kernel, by decide +kernel⟩
theorem mt20 : mB (mc0.at ["door", "other", "caught", "error", "kinds"] (defScope (top 28))) c_law_caught.body (defBody (top 28)) = true := by decide +kernel
theorem kw20 : ∀ n ks p, (20, n, ks, p) ∈ mc0.kw → ∀ (kV doc pm : Value) (an : Option Addr) (cdv ct : Value) (us ws : List Value), us.length = n → ws.length = ks.length → bindArgs (fnOf "_law_caught" "_law_caught" (defArgs (top 28)) (defBody (top 28)) (defScope (top 28)) .none kV doc pm an cdv ct) ⟨us, ks.zip ws⟩ = pure ((["door", "other"] : List Str).zip (p.filterMap fun i => (us ++ ws)[i]?)) := by
  intro n ks p hm
  exact absurd (show (20 : Nat) ∈ mc0.kw.map (fun e => e.1) from List.mem_map_of_mem (f := fun e => e.1) hm) (by decide +kernel)
theorem sc21 : FnScope ["call", "odd", "caught", "error"] ["call", "odd"] (defScope (top 29)) := ⟨rfl, rfl, rfl, by decide +kernel, rfl, by decide +kernel, by decide +kernel⟩
theorem mt21 : mB (mc0.at ["call", "odd", "caught", "error"] (defScope (top 29))) c_law_alone.body (defBody (top 29)) = true := by decide +kernel
theorem kw21 : ∀ n ks p, (21, n, ks, p) ∈ mc0.kw → ∀ (kV doc pm : Value) (an : Option Addr) (cdv ct : Value) (us ws : List Value), us.length = n → ws.length = ks.length → bindArgs (fnOf "_law_alone" "_law_alone" (defArgs (top 29)) (defBody (top 29)) (defScope (top 29)) .none kV doc pm an cdv ct) ⟨us, ks.zip ws⟩ = pure ((["call", "odd"] : List Str).zip (p.filterMap fun i => (us ++ ws)[i]?)) := by
  intro n ks p hm
  exact absurd (show (21 : Nat) ∈ mc0.kw.map (fun e => e.1) from List.mem_map_of_mem (f := fun e => e.1) hm) (by decide +kernel)
theorem sc22 : FnScope ["script", "index", "generator", "number", "strange", "odd", "call", "door", "kind", "good", "at"] ["script"] (defScope (top 30)) := ⟨rfl, rfl, rfl, by decide +kernel, rfl, by decide +kernel, by decide +kernel⟩
theorem mt22 : mB (mc0.at ["script", "index", "generator", "number", "strange", "odd", "call", "door", "kind", "good", "at"] (defScope (top 30))) c_law.body (defBody (top 30)) = true := by decide +kernel
theorem kw22 : ∀ n ks p, (22, n, ks, p) ∈ mc0.kw → ∀ (kV doc pm : Value) (an : Option Addr) (cdv ct : Value) (us ws : List Value), us.length = n → ws.length = ks.length → bindArgs (fnOf "law" "law" (defArgs (top 30)) (defBody (top 30)) (defScope (top 30)) .none kV doc pm an cdv ct) ⟨us, ks.zip ws⟩ = pure ((["script"] : List Str).zip (p.filterMap fun i => (us ++ ws)[i]?)) := by
  intro n ks p hm
  exact absurd (show (22 : Nat) ∈ mc0.kw.map (fun e => e.1) from List.mem_map_of_mem (f := fun e => e.1) hm) (by decide +kernel)
set_option maxHeartbeats 0 in
theorem all_mk {l : PySem.W.OpenLaw} {w : World} {K : Frag} {h : Heap} {mg : Str → Option Value} {fa : Addr} (KX : K.In h) (G : h.Ns mainGlobals mg) (hfa : mg "law" = some (.ref fa))
    {f0 : Addr} {oc0 kV0 dc0 pm0 cd0 ct0 : Value} {od0 an0 : Option Addr} {sl0 : Array (Option Value)}
    {f1 : Addr} {oc1 kV1 dc1 pm1 cd1 ct1 : Value} {od1 an1 : Option Addr} {sl1 : Array (Option Value)}
    {f2 : Addr} {oc2 kV2 dc2 pm2 cd2 ct2 : Value} {od2 an2 : Option Addr} {sl2 : Array (Option Value)}
    {f3 : Addr} {oc3 kV3 dc3 pm3 cd3 ct3 : Value} {od3 an3 : Option Addr} {sl3 : Array (Option Value)}
    {f4 : Addr} {oc4 kV4 dc4 pm4 cd4 ct4 : Value} {od4 an4 : Option Addr} {sl4 : Array (Option Value)}
    {f5 : Addr} {oc5 kV5 dc5 pm5 cd5 ct5 : Value} {od5 an5 : Option Addr} {sl5 : Array (Option Value)}
    {f6 : Addr} {oc6 kV6 dc6 pm6 cd6 ct6 : Value} {od6 an6 : Option Addr} {sl6 : Array (Option Value)}
    {f7 : Addr} {oc7 kV7 dc7 pm7 cd7 ct7 : Value} {od7 an7 : Option Addr} {sl7 : Array (Option Value)}
    {f8 : Addr} {oc8 kV8 dc8 pm8 cd8 ct8 : Value} {od8 an8 : Option Addr} {sl8 : Array (Option Value)}
    {f9 : Addr} {oc9 kV9 dc9 pm9 cd9 ct9 : Value} {od9 an9 : Option Addr} {sl9 : Array (Option Value)}
    {f10 : Addr} {oc10 kV10 dc10 pm10 cd10 ct10 : Value} {od10 an10 : Option Addr} {sl10 : Array (Option Value)}
    {f11 : Addr} {oc11 kV11 dc11 pm11 cd11 ct11 : Value} {od11 an11 : Option Addr} {sl11 : Array (Option Value)}
    {f12 : Addr} {oc12 kV12 dc12 pm12 cd12 ct12 : Value} {od12 an12 : Option Addr} {sl12 : Array (Option Value)}
    {f13 : Addr} {oc13 kV13 dc13 pm13 cd13 ct13 : Value} {od13 an13 : Option Addr} {sl13 : Array (Option Value)}
    {f14 : Addr} {oc14 kV14 dc14 pm14 cd14 ct14 : Value} {od14 an14 : Option Addr} {sl14 : Array (Option Value)}
    {f15 : Addr} {oc15 kV15 dc15 pm15 cd15 ct15 : Value} {od15 an15 : Option Addr} {sl15 : Array (Option Value)}
    {f16 : Addr} {oc16 kV16 dc16 pm16 cd16 ct16 : Value} {od16 an16 : Option Addr} {sl16 : Array (Option Value)}
    {f17 : Addr} {oc17 kV17 dc17 pm17 cd17 ct17 : Value} {od17 an17 : Option Addr} {sl17 : Array (Option Value)}
    {f18 : Addr} {oc18 kV18 dc18 pm18 cd18 ct18 : Value} {od18 an18 : Option Addr} {sl18 : Array (Option Value)}
    {f19 : Addr} {oc19 kV19 dc19 pm19 cd19 ct19 : Value} {od19 an19 : Option Addr} {sl19 : Array (Option Value)}
    {f20 : Addr} {oc20 kV20 dc20 pm20 cd20 ct20 : Value} {od20 an20 : Option Addr} {sl20 : Array (Option Value)}
    {f21 : Addr} {oc21 kV21 dc21 pm21 cd21 ct21 : Value} {od21 an21 : Option Addr} {sl21 : Array (Option Value)}
    {f22 : Addr} {oc22 kV22 dc22 pm22 cd22 ct22 : Value} {od22 an22 : Option Addr} {sl22 : Array (Option Value)}
    (a0 : nsIn K mainGlobals "is_whole" = some (some (.ref f0))) (l0 : K.lookup f0 = some ⟨oc0, od0, .func (fnOf "is_whole" "is_whole" (defArgs (top 6)) (defBody (top 6)) (defScope (top 6)) .none kV0 dc0 pm0 an0 cd0 ct0), sl0⟩) (c0 : codeIn K cd0 "is_whole" = true) (k0 : keepIn K (.ref f0) = true)
    (a1 : nsIn K mainGlobals "check_list" = some (some (.ref f1))) (l1 : K.lookup f1 = some ⟨oc1, od1, .func (fnOf "check_list" "check_list" (defArgs (top 7)) (defBody (top 7)) (defScope (top 7)) .none kV1 dc1 pm1 an1 cd1 ct1), sl1⟩) (c1 : codeIn K cd1 "check_list" = true) (k1 : keepIn K (.ref f1) = true)
    (a2 : nsIn K mainGlobals "common_of" = some (some (.ref f2))) (l2 : K.lookup f2 = some ⟨oc2, od2, .func (fnOf "common_of" "common_of" (defArgs (top 9)) (defBody (top 9)) (defScope (top 9)) .none kV2 dc2 pm2 an2 cd2 ct2), sl2⟩) (c2 : codeIn K cd2 "common_of" = true) (k2 : keepIn K (.ref f2) = true)
    (a3 : nsIn K mainGlobals "is_fraction" = some (some (.ref f3))) (l3 : K.lookup f3 = some ⟨oc3, od3, .func (fnOf "is_fraction" "is_fraction" (defArgs (top 10)) (defBody (top 10)) (defScope (top 10)) .none kV3 dc3 pm3 an3 cd3 ct3), sl3⟩) (c3 : codeIn K cd3 "is_fraction" = true) (k3 : keepIn K (.ref f3) = true)
    (a4 : nsIn K mainGlobals "check_fraction" = some (some (.ref f4))) (l4 : K.lookup f4 = some ⟨oc4, od4, .func (fnOf "check_fraction" "check_fraction" (defArgs (top 11)) (defBody (top 11)) (defScope (top 11)) .none kV4 dc4 pm4 an4 cd4 ct4), sl4⟩) (c4 : codeIn K cd4 "check_fraction" = true) (k4 : keepIn K (.ref f4) = true)
    (a5 : nsIn K mainGlobals "lowest_of" = some (some (.ref f5))) (l5 : K.lookup f5 = some ⟨oc5, od5, .func (fnOf "lowest_of" "lowest_of" (defArgs (top 12)) (defBody (top 12)) (defScope (top 12)) .none kV5 dc5 pm5 an5 cd5 ct5), sl5⟩) (c5 : codeIn K cd5 "lowest_of" = true) (k5 : keepIn K (.ref f5) = true)
    (a6 : nsIn K mainGlobals "fraction_of" = some (some (.ref f6))) (l6 : K.lookup f6 = some ⟨oc6, od6, .func (fnOf "fraction_of" "fraction_of" (defArgs (top 13)) (defBody (top 13)) (defScope (top 13)) .none kV6 dc6 pm6 an6 cd6 ct6), sl6⟩) (c6 : codeIn K cd6 "fraction_of" = true) (k6 : keepIn K (.ref f6) = true)
    (a7 : nsIn K mainGlobals "plus_of" = some (some (.ref f7))) (l7 : K.lookup f7 = some ⟨oc7, od7, .func (fnOf "plus_of" "plus_of" (defArgs (top 14)) (defBody (top 14)) (defScope (top 14)) .none kV7 dc7 pm7 an7 cd7 ct7), sl7⟩) (c7 : codeIn K cd7 "plus_of" = true) (k7 : keepIn K (.ref f7) = true)
    (a8 : nsIn K mainGlobals "times_of" = some (some (.ref f8))) (l8 : K.lookup f8 = some ⟨oc8, od8, .func (fnOf "times_of" "times_of" (defArgs (top 15)) (defBody (top 15)) (defScope (top 15)) .none kV8 dc8 pm8 an8 cd8 ct8), sl8⟩) (c8 : codeIn K cd8 "times_of" = true) (k8 : keepIn K (.ref f8) = true)
    (a9 : nsIn K mainGlobals "less_than" = some (some (.ref f9))) (l9 : K.lookup f9 = some ⟨oc9, od9, .func (fnOf "less_than" "less_than" (defArgs (top 16)) (defBody (top 16)) (defScope (top 16)) .none kV9 dc9 pm9 an9 cd9 ct9), sl9⟩) (c9 : codeIn K cd9 "less_than" = true) (k9 : keepIn K (.ref f9) = true)
    (a10 : nsIn K mainGlobals "check_fractions" = some (some (.ref f10))) (l10 : K.lookup f10 = some ⟨oc10, od10, .func (fnOf "check_fractions" "check_fractions" (defArgs (top 17)) (defBody (top 17)) (defScope (top 17)) .none kV10 dc10 pm10 an10 cd10 ct10), sl10⟩) (c10 : codeIn K cd10 "check_fractions" = true) (k10 : keepIn K (.ref f10) = true)
    (a11 : nsIn K mainGlobals "sum_of" = some (some (.ref f11))) (l11 : K.lookup f11 = some ⟨oc11, od11, .func (fnOf "sum_of" "sum_of" (defArgs (top 18)) (defBody (top 18)) (defScope (top 18)) .none kV11 dc11 pm11 an11 cd11 ct11), sl11⟩) (c11 : codeIn K cd11 "sum_of" = true) (k11 : keepIn K (.ref f11) = true)
    (a12 : nsIn K mainGlobals "product_of" = some (some (.ref f12))) (l12 : K.lookup f12 = some ⟨oc12, od12, .func (fnOf "product_of" "product_of" (defArgs (top 19)) (defBody (top 19)) (defScope (top 19)) .none kV12 dc12 pm12 an12 cd12 ct12), sl12⟩) (c12 : codeIn K cd12 "product_of" = true) (k12 : keepIn K (.ref f12) = true)
    (a13 : nsIn K mainGlobals "is_less" = some (some (.ref f13))) (l13 : K.lookup f13 = some ⟨oc13, od13, .func (fnOf "is_less" "is_less" (defArgs (top 20)) (defBody (top 20)) (defScope (top 20)) .none kV13 dc13 pm13 an13 cd13 ct13), sl13⟩) (c13 : codeIn K cd13 "is_less" = true) (k13 : keepIn K (.ref f13) = true)
    (a14 : nsIn K mainGlobals "_law_hash" = some (some (.ref f14))) (l14 : K.lookup f14 = some ⟨oc14, od14, .func (fnOf "_law_hash" "_law_hash" (defArgs (top 22)) (defBody (top 22)) (defScope (top 22)) .none kV14 dc14 pm14 an14 cd14 ct14), sl14⟩) (c14 : codeIn K cd14 "_law_hash" = true) (k14 : keepIn K (.ref f14) = true)
    (a15 : nsIn K mainGlobals "_law_cell" = some (some (.ref f15))) (l15 : K.lookup f15 = some ⟨oc15, od15, .func (fnOf "_law_cell" "_law_cell" (defArgs (top 23)) (defBody (top 23)) (defScope (top 23)) .none kV15 dc15 pm15 an15 cd15 ct15), sl15⟩) (c15 : codeIn K cd15 "_law_cell" = true) (k15 : keepIn K (.ref f15) = true)
    (a16 : nsIn K mainGlobals "_law_generator" = some (some (.ref f16))) (l16 : K.lookup f16 = some ⟨oc16, od16, .func (fnOf "_law_generator" "_law_generator" (defArgs (top 24)) (defBody (top 24)) (defScope (top 24)) .none kV16 dc16 pm16 an16 cd16 ct16), sl16⟩) (c16 : codeIn K cd16 "_law_generator" = true) (k16 : keepIn K (.ref f16) = true)
    (a17 : nsIn K mainGlobals "_law_random" = some (some (.ref f17))) (l17 : K.lookup f17 = some ⟨oc17, od17, .func (fnOf "_law_random" "_law_random" (defArgs (top 25)) (defBody (top 25)) (defScope (top 25)) .none kV17 dc17 pm17 an17 cd17 ct17), sl17⟩) (c17 : codeIn K cd17 "_law_random" = true) (k17 : keepIn K (.ref f17) = true)
    (a18 : nsIn K mainGlobals "_law_pick" = some (some (.ref f18))) (l18 : K.lookup f18 = some ⟨oc18, od18, .func (fnOf "_law_pick" "_law_pick" (defArgs (top 26)) (defBody (top 26)) (defScope (top 26)) .none kV18 dc18 pm18 an18 cd18 ct18), sl18⟩) (c18 : codeIn K cd18 "_law_pick" = true) (k18 : keepIn K (.ref f18) = true)
    (a19 : nsIn K mainGlobals "_law_call" = some (some (.ref f19))) (l19 : K.lookup f19 = some ⟨oc19, od19, .func (fnOf "_law_call" "_law_call" (defArgs (top 27)) (defBody (top 27)) (defScope (top 27)) .none kV19 dc19 pm19 an19 cd19 ct19), sl19⟩) (c19 : codeIn K cd19 "_law_call" = true) (k19 : keepIn K (.ref f19) = true)
    (a20 : nsIn K mainGlobals "_law_caught" = some (some (.ref f20))) (l20 : K.lookup f20 = some ⟨oc20, od20, .func (fnOf "_law_caught" "_law_caught" (defArgs (top 28)) (defBody (top 28)) (defScope (top 28)) .none kV20 dc20 pm20 an20 cd20 ct20), sl20⟩) (c20 : codeIn K cd20 "_law_caught" = true) (k20 : keepIn K (.ref f20) = true)
    (a21 : nsIn K mainGlobals "_law_alone" = some (some (.ref f21))) (l21 : K.lookup f21 = some ⟨oc21, od21, .func (fnOf "_law_alone" "_law_alone" (defArgs (top 29)) (defBody (top 29)) (defScope (top 29)) .none kV21 dc21 pm21 an21 cd21 ct21), sl21⟩) (c21 : codeIn K cd21 "_law_alone" = true) (k21 : keepIn K (.ref f21) = true)
    (a22 : nsIn K mainGlobals "law" = some (some (.ref f22))) (l22 : K.lookup f22 = some ⟨oc22, od22, .func (fnOf "law" "law" (defArgs (top 30)) (defBody (top 30)) (defScope (top 30)) .none kV22 dc22 pm22 an22 cd22 ct22), sl22⟩) (c22 : codeIn K cd22 "law" = true) (k22 : keepIn K (.ref f22) = true)
    (z0 : nsIn K mainGlobals "abs" = some none)
    (z1 : nsIn K mainGlobals "bool" = some none)
    (z2 : nsIn K mainGlobals "enumerate" = some none)
    (z3 : nsIn K mainGlobals "int" = some none)
    (z4 : nsIn K mainGlobals "isinstance" = some none)
    (z5 : nsIn K mainGlobals "len" = some none)
    (z6 : nsIn K mainGlobals "list" = some none)
    (z7 : nsIn K mainGlobals "max" = some none)
    (z8 : nsIn K mainGlobals "range" = some none)
    (z9 : nsIn K mainGlobals "repr" = some none)
    (z10 : nsIn K mainGlobals "sum" = some none)
    (z11 : nsIn K mainGlobals "tuple" = some none)
    {xD xF xcda xcc : Addr} {xoc xdV xkV xdoc xpm xct xccl xcl : Value} {xod xan xcdd xcld : Option Addr} {xosl xccs xcsl : Array (Option Value)} {xcd : ClassData} {xvs : Array Value} {xfile : Str} {xtf : Tok}
    (xa : nsIn K mainGlobals "LottoError" = some (some (.ref xD))) (xf : findIn K (.ref xD) "__init__" = some (some (.ref xF))) (xl : K.lookup xF = some ⟨xoc, xod, .func (ksFn "__init__" "LottoError.__init__" (defArgs xini) (defBody xini) (defScope xini) xdV xkV xdoc xpm xan (.ref xcda) xct xcc), xosl⟩) (xq : codeIn K (.ref xcda) "LottoError.__init__" = true)
    (xm : K.lookup xcda = some ⟨xccl, xcdd, .fields xvs, xccs⟩) (xn : K.lookup xcc = some ⟨xcl, xcld, .cell (some (.ref xD)), xcsl⟩) (xd : clsIn K xD = some xcd) (xs : nsIn K mainGlobals "super" = some none) (xp : nsIn K cStatics "thirdparty.any" = some none) (xt : typeIn K (.ref xD) = some (.type "type")) (xu : subIn K (.ref xD) (.type "BaseException") = some true)
    (xg : specialIn K (.builtin "object.__class__") "__get__" = some (some (.builtin "getset_descriptor.__get__"))) (xk : takesIn K (.builtin "object.__class__") = some true) (xy : typeIn K (.ref xF) = some (.type "function"))
    (xv : xvs[2]? = some (.str xfile xtf)) (xw : ((l.prog.main.file : Str) == xfile) = true) (xz : (l.prog.main.scope.names.lookup ("super" : Str)).isSome = false) (xdv : xdV = .none)
    {xC2 xN2 : Addr} {xq2 : Str} {xb2 xsub2 : List Value} {xsn2 : List Str} {xab2 : Bool} {xcol2 : Option Bool} {xdd2 : Option Addr} {xk2_0 xk2_1 xk2_2 xk2_3 xk2_5 : Option Value}
    (xa2 : nsIn K mainGlobals "InvalidNumber" = some (some (.ref xC2))) (xl2 : K.lookup xC2 = some (excClassObj "InvalidNumber" xq2 xC2 xN2 xb2 (.ref xD :: PySem.HandSPX.veTail) true xsn2 xsub2 xab2 xcol2 xdd2 xk2_0 xk2_1 xk2_2 xk2_3 xk2_5 "ValueError.__new__"))
    (xi2 : findIn K (.ref xC2) "__init__" = some (some (.ref xF))) (xe2 : findIn K (.ref xC2) "__setattr__" = some (some (.builtin "object.__setattr__"))) (xv2 : findIn K (.ref xC2) "value" = some none) (xg2 : findIn K (.ref xC2) "__getattribute__" = some (some (.builtin "BaseException.__getattribute__"))) (xh2 : findIn K (.ref xC2) "__getattr__" = some none) (xj2 : findIn K (.ref xC2) "__class__" = some (some (.builtin "object.__class__"))) (xkp2 : keepIn K (.ref xC2) = true)
    (xne2 : xC2 ≠ xD)
    {xC3 xN3 : Addr} {xq3 : Str} {xb3 xsub3 : List Value} {xsn3 : List Str} {xab3 : Bool} {xcol3 : Option Bool} {xdd3 : Option Addr} {xk3_0 xk3_1 xk3_2 xk3_3 xk3_5 : Option Value}
    (xa3 : nsIn K mainGlobals "InvalidFraction" = some (some (.ref xC3))) (xl3 : K.lookup xC3 = some (excClassObj "InvalidFraction" xq3 xC3 xN3 xb3 (.ref xD :: PySem.HandSPX.veTail) true xsn3 xsub3 xab3 xcol3 xdd3 xk3_0 xk3_1 xk3_2 xk3_3 xk3_5 "ValueError.__new__"))
    (xi3 : findIn K (.ref xC3) "__init__" = some (some (.ref xF))) (xe3 : findIn K (.ref xC3) "__setattr__" = some (some (.builtin "object.__setattr__"))) (xv3 : findIn K (.ref xC3) "value" = some none) (xg3 : findIn K (.ref xC3) "__getattribute__" = some (some (.builtin "BaseException.__getattribute__"))) (xh3 : findIn K (.ref xC3) "__getattr__" = some none) (xj3 : findIn K (.ref xC3) "__class__" = some (some (.builtin "object.__class__"))) (xkp3 : keepIn K (.ref xC3) = true)
    (xne3 : xC3 ≠ xD)
    {xC5 xN5 : Addr} {xq5 : Str} {xb5 xsub5 : List Value} {xsn5 : List Str} {xab5 : Bool} {xcol5 : Option Bool} {xdd5 : Option Addr} {xk5_0 xk5_1 xk5_2 xk5_3 xk5_5 : Option Value}
    (xa5 : nsIn K mainGlobals "InvalidList" = some (some (.ref xC5))) (xl5 : K.lookup xC5 = some (excClassObj "InvalidList" xq5 xC5 xN5 xb5 (.ref xD :: PySem.HandSPX.veTail) true xsn5 xsub5 xab5 xcol5 xdd5 xk5_0 xk5_1 xk5_2 xk5_3 xk5_5 "ValueError.__new__"))
    (xi5 : findIn K (.ref xC5) "__init__" = some (some (.ref xF))) (xe5 : findIn K (.ref xC5) "__setattr__" = some (some (.builtin "object.__setattr__"))) (xv5 : findIn K (.ref xC5) "value" = some none) (xg5 : findIn K (.ref xC5) "__getattribute__" = some (some (.builtin "BaseException.__getattribute__"))) (xh5 : findIn K (.ref xC5) "__getattr__" = some none) (xj5 : findIn K (.ref xC5) "__class__" = some (some (.builtin "object.__class__"))) (xkp5 : keepIn K (.ref xC5) = true)
    (xne5 : xC5 ≠ xD)
    : ∃ fd : FuncData, (∀ (s : Shared) (v : Value), BindsTo s fd ⟨[v], []⟩ [("script", v)]) ∧ ∀ base : Heap, K.In base → base.Ns mainGlobals mg → (∃ o, base.get? sysModules = some o) → FnG l.prog w K mg base 15 fa fd ["script"] (spOf K (call prog 1000000 12) 22 1) := by
  have e := hfa.symm.trans (mg_of KX G a22)
  cases e
  have M : ModOk l.prog K mg prog mc0 := {
    defs := AllG.get (l := mc0.gs) ⟨
      defOk_mk (an := an0) KX G sc0 rfl rfl rfl mt0 (fun _ _ _ _ _ _ us hl => match us, hl with | [_], _ => rfl) kw0 a0 l0 c0 k0,
      defOk_mk (an := an1) KX G sc1 rfl rfl rfl mt1 (fun _ _ _ _ _ _ us hl => match us, hl with | [_], _ => rfl) kw1 a1 l1 c1 k1,
      defOk_mk (an := an2) KX G sc2 rfl rfl rfl mt2 (fun _ _ _ _ _ _ us hl => match us, hl with | [_, _], _ => rfl) kw2 a2 l2 c2 k2,
      defOk_mk (an := an3) KX G sc3 rfl rfl rfl mt3 (fun _ _ _ _ _ _ us hl => match us, hl with | [_], _ => rfl) kw3 a3 l3 c3 k3,
      defOk_mk (an := an4) KX G sc4 rfl rfl rfl mt4 (fun _ _ _ _ _ _ us hl => match us, hl with | [_], _ => rfl) kw4 a4 l4 c4 k4,
      defOk_mk (an := an5) KX G sc5 rfl rfl rfl mt5 (fun _ _ _ _ _ _ us hl => match us, hl with | [_, _], _ => rfl) kw5 a5 l5 c5 k5,
      defOk_mk (an := an6) KX G sc6 rfl rfl rfl mt6 (fun _ _ _ _ _ _ us hl => match us, hl with | [_, _], _ => rfl) kw6 a6 l6 c6 k6,
      defOk_mk (an := an7) KX G sc7 rfl rfl rfl mt7 (fun _ _ _ _ _ _ us hl => match us, hl with | [_, _], _ => rfl) kw7 a7 l7 c7 k7,
      defOk_mk (an := an8) KX G sc8 rfl rfl rfl mt8 (fun _ _ _ _ _ _ us hl => match us, hl with | [_, _], _ => rfl) kw8 a8 l8 c8 k8,
      defOk_mk (an := an9) KX G sc9 rfl rfl rfl mt9 (fun _ _ _ _ _ _ us hl => match us, hl with | [_, _], _ => rfl) kw9 a9 l9 c9 k9,
      defOk_mk (an := an10) KX G sc10 rfl rfl rfl mt10 (fun _ _ _ _ _ _ us hl => match us, hl with | [_], _ => rfl) kw10 a10 l10 c10 k10,
      defOk_mk (an := an11) KX G sc11 rfl rfl rfl mt11 (fun _ _ _ _ _ _ us hl => match us, hl with | [_], _ => rfl) kw11 a11 l11 c11 k11,
      defOk_mk (an := an12) KX G sc12 rfl rfl rfl mt12 (fun _ _ _ _ _ _ us hl => match us, hl with | [_], _ => rfl) kw12 a12 l12 c12 k12,
      defOk_mk (an := an13) KX G sc13 rfl rfl rfl mt13 (fun _ _ _ _ _ _ us hl => match us, hl with | [_, _], _ => rfl) kw13 a13 l13 c13 k13,
      defOk_mk (an := an14) KX G sc14 rfl rfl rfl mt14 (fun _ _ _ _ _ _ us hl => match us, hl with | [_, _], _ => rfl) kw14 a14 l14 c14 k14,
      defOk_mk (an := an15) KX G sc15 rfl rfl rfl mt15 (fun _ _ _ _ _ _ us hl => match us, hl with | [_, _], _ => rfl) kw15 a15 l15 c15 k15,
      defOk_mk (an := an16) KX G sc16 rfl rfl rfl mt16 (fun _ _ _ _ _ _ us hl => match us, hl with | [_, _], _ => rfl) kw16 a16 l16 c16 k16,
      defOk_mk (an := an17) KX G sc17 rfl rfl rfl mt17 (fun _ _ _ _ _ _ us hl => match us, hl with | [_, _], _ => rfl) kw17 a17 l17 c17 k17,
      defOk_mk (an := an18) KX G sc18 rfl rfl rfl mt18 (fun _ _ _ _ _ _ us hl => match us, hl with | [_, _], _ => rfl) kw18 a18 l18 c18 k18,
      defOk_mk (an := an19) KX G sc19 rfl rfl rfl mt19 (fun _ _ _ _ _ _ us hl => match us, hl with | [_, _], _ => rfl) kw19 a19 l19 c19 k19,
      defOk_mk (an := an20) KX G sc20 rfl rfl rfl mt20 (fun _ _ _ _ _ _ us hl => match us, hl with | [_, _], _ => rfl) kw20 a20 l20 c20 k20,
      defOk_mk (an := an21) KX G sc21 rfl rfl rfl mt21 (fun _ _ _ _ _ _ us hl => match us, hl with | [_, _], _ => rfl) kw21 a21 l21 c21 k21,
      defOk_mk (an := an22) KX G sc22 rfl rfl rfl mt22 (fun _ _ _ _ _ _ us hl => match us, hl with | [_], _ => rfl) kw22 a22 l22 c22 k22,
      trivial⟩
    cst := fun x k h => by simp [mc0] at h
    blt := AllN.get KX G (l := mc0.bl) ⟨z0, z1, z2, z3, z4, z5, z6, z7, z8, z9, z10, z11, trivial⟩
    x := xall_mk KX G (xbase_mk (st := xini) rfl rfl xl xq xm xv xw xn xd rfl rfl xz (by decide +kernel) (by decide +kernel) (by decide +kernel) (by decide +kernel) (by decide +kernel) rfl rfl rfl (fun _ dV _ _ _ _ _ _ _ _ _ e => by subst e; rfl) xdv xp) (xtop_mk xa xd xt xu) xs (by decide)
      ⟨fun h => absurd rfl h, fun _ => ⟨xC2, xcls_mk xl2 xi2 xe2 xv2 xg2 xh2 xj2 xg xk xkp2 xy xne2, xa2⟩, fun _ => ⟨xC3, xcls_mk xl3 xi3 xe3 xv3 xg3 xh3 xj3 xg xk xkp3 xy xne3, xa3⟩, fun _ => ⟨xC5, xcls_mk xl5 xi5 xe5 xv5 xg5 xh5 xj5 xg xk xkp5 xy xne5, xa5⟩, trivial⟩ }
  have F := L2.fun_mk (st := top 30) (an := an22) l22 c22 k22
  exact ⟨_, fun s v => .of_eq rfl, fun base _ _ hs => fn_one M hs (lv_all M hs 11) F sc22 (i := 22) rfl rfl mt22⟩
end LW

namespace LW
open PySem hiding call truthy
open PySem.W L2 PySem.Spec PyProof.Rows LH
/-! ## what is judged -/
theorem p_wh : prog[0]? = some gIsWhole := rfl
theorem p_com : prog[2]? = some (gCommon (.loc 0)) := rfl
theorem p_low : prog[5]? = some (gLowest 2) := rfl
theorem one0 : OneE (.loc 0) := fun c a r S => by simp
theorem lowAt : LowAt prog 5 2 := lowest_at one0 p_com p_low
def isFr : D → Bool
  | .tup [.int a, .int b] => decide (1 ≤ b) && decide (Int.gcd a b = 1)
  | _ => false
/-- what may be judged -/
structure Jd (d : D) : Prop where
  ty : ty1 d = true
  tt : ∀ xs, d = .tup xs → ∀ x ∈ xs, ty1 x = true
  tb : ∀ a b, d = .tup [.int a, .int b] → b.natAbs < 2 ^ 64
theorem frac_ok {d : D} (h : Jd d) (F n : Nat) (hF : 1000 ≤ F) (S : Store) : LH.call prog F (n + 3) 3 [d] S = .ok (.bl (isFr d)) S := by
  refine call_ret (d := c_is_fraction) rfl rfl ?_ (.inr rfl)
  obtain ⟨h1, h2, h3⟩ := h
  cases d with
  | tup xs =>
    match xs, h2 xs rfl with
    | [], _ => simp [c_is_fraction, startE, isFr, Ty.le, Ty.ix]
    | [x], _ => simp [c_is_fraction, startE, isFr, Ty.le, Ty.ix]
    | x :: y :: z :: r, _ =>
      have e : ¬ ((r.length : Int) + 1 + 1 + 1 = 2) := by omega
      simp [c_is_fraction, startE, isFr, Ty.le, Ty.ix, e]
    | [x, y], hx =>
      have e1 := wholeD_ok p_wh F (n + 1) x (hx x (by simp)) S
      have e2 := wholeD_ok p_wh F (n + 1) y (hx y (by simp)) S
      cases x with
      | int a =>
        cases y with
        | int b =>
          have e3 := common_ok (F := F) (n := n + 1) one0 p_com (a := a) (b := b) (k := 64) (h3 a b rfl) (by omega) S
          simp [c_is_fraction, startE, isFr, Ty.le, Ty.ix, e1, e2, e3, isW]
          by_cases hb : 1 ≤ b <;> simp [hb, Bool.beq_eq_decide_eq]
          norm_cast
        | _ => simp [c_is_fraction, startE, isFr, Ty.le, Ty.ix, e1, e2, isW]
      | _ => simp [c_is_fraction, startE, isFr, Ty.le, Ty.ix, e1, isW]
  | dct t ks vs => cases t <;> first | (cases h1; done) | simp [c_is_fraction, startE, isFr, Ty.le, Ty.ix]
  | _ => first | (cases h1; done) | simp [c_is_fraction, startE, isFr, Ty.le, Ty.ix]
theorem ckf_bad {d : D} (h : Jd d) (hb : isFr d = false) (F n : Nat) (hF : 1000 ≤ F) (S : Store) : LH.call prog F (n + 4) 4 [d] S = .ex 3 d S := by
  refine call_ex (d := c_check_fraction) (ρ := [some d]) rfl rfl ?_ rfl
  have e := frac_ok h F n hF S
  rw [hb] at e
  simp [c_check_fraction, startE, e]
theorem ckf_good {d : D} (h : Jd d) (hb : isFr d = true) (F n : Nat) (hF : 1000 ≤ F) (S : Store) : LH.call prog F (n + 4) 4 [d] S = .ok .non S := by
  refine call_nx (d := c_check_fraction) (ρ := [some d]) rfl rfl ?_ rfl
  have e := frac_ok h F n hF S
  rw [hb] at e
  simp [c_check_fraction, startE, e]
def isL : D → Bool
  | .lst _ => true
  | _ => false
theorem ckl_bad {d : D} (h : ty1 d = true) (hb : isL d = false) (F n : Nat) (S : Store) : LH.call prog F (n + 1) 1 [d] S = .ex 5 d S := by
  refine call_ex (d := c_check_list) (ρ := [some d]) rfl rfl ?_ rfl
  cases d with
  | dct t ks vs => cases t <;> first | (cases h; done) | simp [c_check_list, startE, Ty.le, Ty.ix]
  | _ => first | (cases h; done) | (cases hb; done) | simp [c_check_list, startE, Ty.le, Ty.ix]
theorem ckl_good (xs : List D) (F n : Nat) (S : Store) : LH.call prog F (n + 1) 1 [.lst xs] S = .ok .non S := by
  refine call_nx (d := c_check_list) (ρ := [some (.lst xs)]) rfl rfl ?_ rfl
  simp [c_check_list, startE, Ty.le, Ty.ix]
theorem ckfs_for (F n : Nat) (hF : 1000 ≤ F) (S : Store) (l : D) (ys : List D) (d : D) (hd : Jd d) (hb : isFr d = false) (rest : List D) : ∀ (pre : List D) (i : Nat) (q : Option D), (∀ x ∈ pre, Jd x ∧ isFr x = true) →
    forRun (.fix ys) (.nm 1) (semB (LH.call prog F (n + 4)) F c_check_fractions_b0) (pre ++ d :: rest) i [some l, q] S = .ex 3 d [some l, some d] S
  | [], i, q, _ => by
    have e := ckf_bad hd hb F n hF S
    simp [forRun, Src.cur, asg_nm, c_check_fractions_b0, e]
  | x :: pre, i, q, h => by
    have e := ckf_good (h x (by simp)).1 (h x (by simp)).2 F n hF S
    have ih := ckfs_for F n hF S l ys d hd hb rest pre (i + 1) (some x) fun y hy => h y (List.mem_cons_of_mem _ hy)
    simp only [List.cons_append, forRun, Src.cur, asg_nm]
    simp [c_check_fractions_b0, e]
    exact ih
theorem ckfs_bad (F n : Nat) (hF : 1000 ≤ F) (S : Store) {d : D} (hd : Jd d) (hb : isFr d = false) (pre rest : List D) (hp : ∀ x ∈ pre, Jd x ∧ isFr x = true) : LH.call prog F (n + 5) 10 [.lst (pre ++ d :: rest)] S = .ex 3 d S := by
  refine call_ex (d := c_check_fractions) (ρ := [some (.lst (pre ++ d :: rest)), some d]) rfl rfl ?_ rfl
  have e := ckl_good (pre ++ d :: rest) F (n + 3) S
  have e2 := ckfs_for F n hF S (.lst (pre ++ d :: rest)) (pre ++ d :: rest) d hd hb rest pre 0 none hp
  generalize pre ++ d :: rest = l at *
  simp [c_check_fractions, startE, e, e2]
theorem jd_int (i : Int) : Jd (.int i) := ⟨rfl, fun xs e => (nomatch e), fun a b e => (nomatch e)⟩
theorem jd_pair (a b : Int) (h : b.natAbs < 2 ^ 64) : Jd (.tup [.int a, .int b]) := ⟨rfl, fun xs e x hx => by
  cases e
  simp at hx
  rcases hx with rfl | rfl <;> rfl, fun x y e => by cases e; exact h⟩
theorem sum_bad (F n : Nat) (S : Store) {d x : D} {k : Nat} (h : LH.call prog F (n + 5) 10 [d] S = .ex k x S) : LH.call prog F (n + 6) 11 [d] S = .ex k x S := by
  refine call_ex (d := c_sum_of) (ρ := [some d, none, none]) rfl rfl ?_ rfl
  simp [c_sum_of, startE, h]
theorem pro_bad (F n : Nat) (S : Store) {d x : D} {k : Nat} (h : LH.call prog F (n + 5) 10 [d] S = .ex k x S) : LH.call prog F (n + 6) 12 [d] S = .ex k x S := by
  refine call_ex (d := c_product_of) (ρ := [some d, none, none]) rfl rfl ?_ rfl
  simp [c_product_of, startE, h]
theorem ckfs_nol (F n : Nat) (S : Store) {d : D} (h : ty1 d = true) (hb : isL d = false) : LH.call prog F (n + 5) 10 [d] S = .ex 5 d S := by
  refine call_ex (d := c_check_fractions) (ρ := [some d, none]) rfl rfl ?_ rfl
  have e := ckl_bad h hb F (n + 3) S
  simp [c_check_fractions, startE, e]
theorem fo_one (F n : Nat) (S : Store) {a b : D} (h : ty1 a = true) (hb : isW a = false) : LH.call prog F (n + 2) 6 [a, b] S = .ex 2 a S := by
  refine call_ex (d := c_fraction_of) (ρ := [some a, some b]) rfl rfl ?_ rfl
  have e := wholeD_ok p_wh F n a h S
  simp [c_fraction_of, startE, e, hb]
theorem fo_two (F n : Nat) (S : Store) {b : D} (i : Int) (h : ty1 b = true) (hb : isW b = false ∨ b = .int 0) : LH.call prog F (n + 2) 6 [.int i, b] S = .ex 2 b S := by
  refine call_ex (d := c_fraction_of) (ρ := [some (.int i), some b]) rfl rfl ?_ rfl
  have e := wholeD_ok p_wh F n b h S
  have e2 : LH.call prog F (n + 1) 0 [.int i] S = .ok (.bl true) S := wholeD_ok p_wh F n (.int i) rfl S
  rcases hb with hb | rfl
  · rw [hb] at e
    simp [c_fraction_of, startE, e, e2]
  · have e3 : LH.call prog F (n + 1) 0 [.int 0] S = .ok (.bl true) S := e
    simp [c_fraction_of, startE, e2, e3]
theorem less_one (F n : Nat) (hF : 1000 ≤ F) (S : Store) {d b : D} (h : Jd d) (hb : isFr d = false) : LH.call prog F (n + 5) 13 [d, b] S = .ex 3 d S := by
  refine call_ex (d := c_is_less) (ρ := [some d, some b]) rfl rfl ?_ rfl
  have e := ckf_bad h hb F n hF S
  simp [c_is_less, startE, e]
theorem less_two (F n : Nat) (hF : 1000 ≤ F) (S : Store) {d a : D} (ha : Jd a) (ha2 : isFr a = true) (h : Jd d) (hb : isFr d = false) : LH.call prog F (n + 5) 13 [a, d] S = .ex 3 d S := by
  refine call_ex (d := c_is_less) (ρ := [some a, some d]) rfl rfl ?_ rfl
  have e := ckf_bad h hb F n hF S
  have e2 := ckf_good ha ha2 F n hF S
  simp [c_is_less, startE, e, e2]
end LW

namespace LW
open PySem hiding call truthy
open PySem.W L2 PySem.Spec PyProof.Rows LH
/-! ## the doors -/
theorem fr13 : Jd (.tup [.int 1, .int 3]) ∧ isFr (.tup [.int 1, .int 3]) = true := ⟨jd_pair _ _ (by decide), by decide⟩
theorem fr12 : Jd (.tup [.int 1, .int 2]) ∧ isFr (.tup [.int 1, .int 2]) = true := ⟨jd_pair _ _ (by decide), by decide⟩
theorem fr31 : Jd (.tup [.int 3, .int 1]) ∧ isFr (.tup [.int 3, .int 1]) = true := ⟨jd_pair _ _ (by decide), by decide⟩
theorem fr01 : Jd (.tup [.int 0, .int 1]) ∧ isFr (.tup [.int 0, .int 1]) = true := ⟨jd_pair _ _ (by decide), by decide⟩
section
variable (F n : Nat) (hF : 1000 ≤ F) (S : Store) (d : D)
theorem door0 (h : ty1 d = true) (hb : isW d = false) : LH.call prog F (n + 7) 19 [.int 0, d] S = .ex 2 d S := by
  refine call_ex (d := c_law_call) (ρ := [some (.int 0), some d, none]) rfl rfl ?_ rfl
  have e := fo_one F (n + 4) S (b := .int 0) h hb
  simp [c_law_call, startE, e]
theorem door1 (h : ty1 d = true) (hb : isW d = false ∨ d = .int 0) : LH.call prog F (n + 7) 19 [.int 1, d] S = .ex 2 d S := by
  refine call_ex (d := c_law_call) (ρ := [some (.int 1), some d, none]) rfl rfl ?_ rfl
  have e := fo_two F (n + 4) S 3 h hb
  simp [c_law_call, startE, e]
theorem door2 (h : ty1 d = true) (hb : isL d = false) : LH.call prog F (n + 7) 19 [.int 2, d] S = .ex 5 d S := by
  refine call_ex (d := c_law_call) (ρ := [some (.int 2), some d, none]) rfl rfl ?_ rfl
  have e := sum_bad F n S (ckfs_nol F n S h hb)
  simp [c_law_call, startE, e]
theorem door4 (h : ty1 d = true) (hb : isL d = false) : LH.call prog F (n + 7) 19 [.int 4, d] S = .ex 5 d S := by
  refine call_ex (d := c_law_call) (ρ := [some (.int 4), some d, none]) rfl rfl ?_ rfl
  have e := pro_bad F n S (ckfs_nol F n S h hb)
  simp [c_law_call, startE, e]
theorem door8 (h : ty1 d = true) (hb : isW d = false ∨ d = .int 0) : LH.call prog F (n + 7) 19 [.int 8, d] S = .ex 2 d S := by
  refine call_ex (d := c_law_call) (ρ := [some (.int 8), some d, none]) rfl rfl ?_ rfl
  have e := fo_two F (n + 4) S 0 h hb
  simp [c_law_call, startE, e]
include hF
theorem door3 (h : Jd d) (hb : isFr d = false) : LH.call prog F (n + 7) 19 [.int 3, d] S = .ex 3 d S := by
  refine call_ex (d := c_law_call) (ρ := [some (.int 3), some d, none]) rfl rfl ?_ rfl
  have e : LH.call prog F (n + 6) 11 [.lst [.tup [.int 1, .int 2], d, .non]] S = .ex 3 d S := sum_bad F n S (ckfs_bad F n hF S h hb [.tup [.int 1, .int 2]] [.non] (by simpa using fr12))
  simp [c_law_call, startE, e, mkL_f]
theorem door5 (h : Jd d) (hb : isFr d = false) : LH.call prog F (n + 7) 19 [.int 5, d] S = .ex 3 d S := by
  refine call_ex (d := c_law_call) (ρ := [some (.int 5), some d, none]) rfl rfl ?_ rfl
  have e : LH.call prog F (n + 6) 12 [.lst [.tup [.int 3, .int 1], .tup [.int 0, .int 1], d, .tup [.int 2, .int 4]]] S = .ex 3 d S := pro_bad F n S (ckfs_bad F n hF S h hb [.tup [.int 3, .int 1], .tup [.int 0, .int 1]] [.tup [.int 2, .int 4]] (by simpa using ⟨fr31, fr01⟩))
  simp [c_law_call, startE, e, mkL_f]
theorem door6 (h : Jd d) (hb : isFr d = false) : LH.call prog F (n + 7) 19 [.int 6, d] S = .ex 3 d S := by
  refine call_ex (d := c_law_call) (ρ := [some (.int 6), some d, none]) rfl rfl ?_ rfl
  have e := less_one F (n + 1) hF S (b := .non) h hb
  simp [c_law_call, startE, e]
theorem door7 (h : Jd d) (hb : isFr d = false) : LH.call prog F (n + 7) 19 [.int 7, d] S = .ex 3 d S := by
  refine call_ex (d := c_law_call) (ρ := [some (.int 7), some d, none]) rfl rfl ?_ rfl
  have e := less_two F (n + 1) hF S fr12.1 fr12.2 h hb
  simp [c_law_call, startE, e]
def goods (k : Nat) (d : D) : List D := (List.replicate k (.tup [.int 1, .int 3])) ++ d :: List.replicate (12 - k) (.tup [.int 1, .int 3])
theorem goods_bad (h : Jd d) (hb : isFr d = false) (k : Nat) : LH.call prog F (n + 5) 10 [.lst (goods k d)] S = .ex 3 d S :=
  ckfs_bad F n hF S h hb _ _ (by intro x hx; rw [(List.mem_replicate.mp hx).2]; exact fr13)
theorem door9 (h : Jd d) (hb : isFr d = false) (t : Int) (ht : t = 9 ∨ t = 10) (k : Int) (h0 : 0 ≤ k) (hk : k ≤ 12) : LH.call prog F (n + 7) 19 [.int t, .tup [d, .int k]] S = .ex 3 d S := by
  obtain ⟨k, rfl⟩ : ∃ m : Nat, k = m := ⟨k.toNat, by omega⟩
  refine call_ex (d := c_law_call) (ρ := [some (.int t), some (.tup [d, .int k]), some (.lst (goods k d))]) rfl rfl ?_ rfl
  have e1 := sum_bad F n S (goods_bad F n hF S d h hb k)
  have e2 := pro_bad F n S (goods_bad F n hF S d h hb k)
  have m1 : binD false .mul (.lst [.tup [.int 1, .int 3]]) (.int k) S = .ok (.lst (List.replicate k (.tup [.int 1, .int 3]))) S := by
    unfold binD mulD
    have hk' : (k : Int) ≤ LMAX := Int.le_trans hk (by decide)
    have hk2 : [D.tup [.int 1, .int 3]].length * (k : Int).toNat ≤ LMAX := by simp; omega
    simp only [l_lst, if_pos (show 0 ≤ (k : Int) ∧ (k : Int) ≤ LMAX ∧ [D.tup [.int 1, .int 3]].length * (k : Int).toNat ≤ LMAX from ⟨h0, hk', hk2⟩)]
    rw [mkL_f _ _ (by simp; omega)]
    simp
  have m2 : binD false .mul (.lst [.tup [.int 1, .int 3]]) (.int (12 - k)) S = .ok (.lst (List.replicate (12 - k) (.tup [.int 1, .int 3]))) S := by
    unfold binD mulD
    have hk' : (12 - k : Int) ≤ LMAX := Int.le_trans (show (12 - k : Int) ≤ 12 by omega) (by decide)
    have ht : (12 - (k : Int)).toNat = 12 - k := by omega
    have hk2 : [D.tup [.int 1, .int 3]].length * (12 - k : Int).toNat ≤ LMAX := by simp; omega
    simp only [l_lst, if_pos (show 0 ≤ (12 - k : Int) ∧ (12 - k : Int) ≤ LMAX ∧ [D.tup [.int 1, .int 3]].length * (12 - k : Int).toNat ≤ LMAX from ⟨by omega, hk', hk2⟩)]
    rw [ht, mkL_f _ _ (by simp; omega)]
    simp
  have eg : List.replicate k (D.tup [.int 1, .int 3]) ++ ([d] ++ List.replicate (12 - k) (.tup [.int 1, .int 3])) = goods k d := rfl
  have l1 : (List.replicate k (D.tup [.int 1, .int 3]) ++ [d]).length ≤ LMAX := by simp; omega
  have l2 : (goods k d).length ≤ LMAX := by simp [goods]; omega
  generalize List.replicate k (D.tup [.int 1, .int 3]) = ra at *
  generalize List.replicate (12 - k) (D.tup [.int 1, .int 3]) = rb at *
  have a1 : binD false .add (.lst ra) (.lst [d]) S = .ok (.lst (ra ++ [d])) S := by rw [o_addL, mkL_f _ _ l1]
  have a2 : binD false .add (.lst (ra ++ [d])) (.lst rb) S = .ok (.lst (goods k d)) S := by rw [o_addL, List.append_assoc, eg, mkL_f _ _ l2]
  generalize goods k d = gg at *
  rcases ht with rfl | rfl <;> simp [c_law_call, startE, e1, e2, mkL_f, m1, m2, a1, a2, asg_nm, -o_mulI, -o_addL]
end
/-! ## what is caught -/
theorem caught_ex (F n : Nat) (S : Store) {a d v : D} {k : Nat} (h : LH.call prog F n 19 [a, d] S = .ex k v S) (hr : v.rk 20 = true) (hs : v.sz ≤ 1000000) : LH.call prog F (n + 1) 20 [a, d] S = .ok (.lst [.lst [.bl (decide (k = 2)), .bl (decide (k = 5)), .bl (decide (k = 3))], .str (PyData.shown v.py)]) S := by
  refine call_ret (d := c_law_caught) rfl rfl ?_ (.inr rfl)
  have e := fun m => repr_ok (S := S) (m := m) hr hs
  simp [c_law_caught, c_law_caught_y0, startE, h, e, mkL_f, asg_nm]
theorem caught_no (F n : Nat) (S : Store) {a d w : D} (h : LH.call prog F n 19 [a, d] S = .ok w S) : LH.call prog F (n + 1) 20 [a, d] S = .ok (.lst [.lst [.bl false, .bl false, .bl false], .non]) S := by
  refine call_ret (d := c_law_caught) rfl rfl ?_ (.inr rfl)
  simp [c_law_caught, c_law_caught_y0, startE, h, mkL_f, asg_nm]
end LW

namespace LW
open PySem hiding call truthy
open PySem.W L2 PySem.Spec PyProof.Rows LH
theorem p_hash : prog[14]? = some gHash := rfl
theorem p_cell : prog[15]? = some gCell := rfl
theorem p_gen : prog[16]? = some (gGenerator 15) := rfl
theorem p_random : prog[17]? = some (gRandom 14) := rfl
theorem p_pick : prog[18]? = some (gPick 17) := rfl
/-! ## the strange ones -/
def odl (x : Int) : List D := [.non, .bl true, .bl false, .str ⟨#[]⟩, .str ⟨#[49]⟩, .dct false [] [], .tup [], .tup [.str ⟨#[97]⟩], .lst [.int 1, .int 2], .tup [.int 1, .int 2, .int 3], .tup [.int 2, .int 4], .tup [.int 1, .int 0], .tup [.int 1, .int (-2)], .tup [.int 0, .int 2], .tup [.bl true, .int 2], .tup [.int 1, .bl true], .tup [.int x, .int x], .tup [.int (x * 2), .int 2]]
def sOne : Str := ⟨#[40, 49, 44, 32, 49, 41]⟩
theorem one_shown : PyData.shown (D.tup [.int 1, .int 1]).py = sOne := by decide +kernel
structure Od (d : D) : Prop where
  jd : Jd d
  nf : isFr d = false
  rk : d.rk 20 = true
  sz : d.sz ≤ 1000000
  so : d.so = true
theorem od_int {i : Int} (h : -999999999999 ≤ i ∧ i ≤ 999999999999) : Od (.int i) := ⟨jd_int i, rfl, decide_eq_true h, by simp [D.sz], rfl⟩
theorem jd_tup {xs : List D} (h : ∀ x ∈ xs, ty1 x = true) (h2 : ∀ a b, xs = [.int a, .int b] → b.natAbs < 2 ^ 64) : Jd (.tup xs) := ⟨rfl, fun ys e => by cases e; exact h, fun a b e => h2 a b (by cases e; rfl)⟩
theorem odl_od {x : Int} (h0 : 1 ≤ x) (h1 : x ≤ 1000000000) : ∀ d ∈ odl x, isW d = false ∧ (PyData.shown d.py ≠ sOne → Od d) ∧ d.rk 20 = true ∧ d.sz ≤ 1000000 := by
  intro d hd
  simp only [odl, List.mem_cons, List.not_mem_nil, or_false] at hd
  have hr : (-999999999999 ≤ x ∧ x ≤ 999999999999) := by omega
  have hr2 : (-999999999999 ≤ x * 2 ∧ x * 2 ≤ 999999999999) := by omega
  rcases hd with rfl | rfl | rfl | rfl | rfl | rfl | rfl | rfl | rfl | rfl | rfl | rfl | rfl | rfl | rfl | rfl | rfl | rfl
  case inr.inr.inr.inr.inr.inr.inr.inr.inr.inr.inr.inr.inr.inr.inr.inr.inl =>
    have rk : (D.tup [.int x, .int x]).rk 20 = true := by simp [D.rk, D.rkL, hr]
    refine ⟨rfl, fun h => ⟨jd_pair _ _ (by omega), ?_, rk, by simp [D.sz, D.szL], by simp [D.so, D.soL]⟩, rk, by simp [D.sz, D.szL]⟩
    have hx : x ≠ 1 := fun e => by
      subst e
      exact h one_shown
    show (decide (1 ≤ x) && decide (Int.gcd x x = 1)) = false
    rw [Int.gcd_self, Bool.and_eq_false_iff]
    right
    exact decide_eq_false (by omega)
  case inr.inr.inr.inr.inr.inr.inr.inr.inr.inr.inr.inr.inr.inr.inr.inr.inr =>
    have rk : (D.tup [.int (x * 2), .int 2]).rk 20 = true := by simp [D.rk, D.rkL, hr2]
    refine ⟨rfl, fun h => ⟨jd_pair _ _ (by decide), ?_, rk, by simp [D.sz, D.szL], by simp [D.so, D.soL]⟩, rk, by simp [D.sz, D.szL]⟩
    show (decide ((1 : Int) ≤ 2) && decide (Int.gcd (x * 2) 2 = 1)) = false
    have : Int.gcd (x * 2) 2 = 2 := by rw [Int.gcd_comm]; simp
    rw [this]
    rfl
  all_goals
    refine ⟨rfl, fun _ => ⟨?_, by decide +kernel, by decide +kernel, by decide +kernel, by decide +kernel⟩, by decide +kernel, by decide +kernel⟩
    first
      | exact jd_tup (by simp [ty1]) (by simp; done)
      | exact jd_tup (by simp [ty1]) (by intro a b e; simp at e; omega)
      | exact ⟨rfl, fun xs e => (nomatch e), fun a b e => (nomatch e)⟩
theorem rng3 : rngD 0 3 = [.int 0, .int 1, .int 2] := rfl
theorem okr3 : okR 3 = true := rfl
def kd (k : Int) : D := .lst [.bl (decide ((0 : Int) = k)), .bl (decide ((1 : Int) = k)), .bl (decide ((2 : Int) = k))]
theorem kds_eq (S : Store) (k : Int) {x : Str} (h : PyData.strOk x = true) : cmpD S .ne (.lst [kd k, .str x]) (.lst [kd k, .str x]) = some false :=
  (cmp_self (by
    show (true && (PyData.strOk x && true)) = true
    rw [h]; rfl)).2
theorem b5_ok {cc : Nat → List D → Store → R D} {F : Nat} {a0 a1 a2 a3 a4 q6 q9 q10 : Option D} {door kind : Int} {d : D} (S : Store) (ho : Od d) (e : kind ≠ 1 ∨ isL d = false → cc 20 [.int door, d] S = .ok (.lst [kd kind, .str (PyData.shown d.py)]) S) :
    semB cc F c_law_b5 [a0, a1, a2, a3, a4, some d, q6, some (.int door), some (.int kind), q9, q10] S = .nx [a0, a1, a2, a3, a4, some d, q6, some (.int door), some (.int kind), q9, q10] S := by
  have er := fun m => repr_ok (S := S) (m := m) ho.rk ho.sz
  have en := kds_eq S kind (so_ok ho.so)
  have ei : isiD S [.list] d = some (isL d) := by
    have := ho.jd.ty
    cases d with
    | dct t ks vs => cases t <;> first | (cases this; done) | rfl
    | _ => first | (cases this; done) | rfl
  by_cases hc : kind ≠ 1 ∨ isL d = false
  · have e := e hc
    generalize PyData.shown d.py = x at *
    unfold kd at *
    rcases hc with hc | hc
    · simp [c_law_b5, hc, e, er, rng3, okr3, lcRun, lcBody, wipeE, asg_nm, c_law_e0, mkL_f, Src.cur, Src.fin, en]
    · by_cases h1 : kind = 1
      · subst h1
        simp [c_law_b5, hc, ei]
        simp at e en
        simp [e, er, rng3, okr3, lcRun, lcBody, wipeE, asg_nm, c_law_e0, mkL_f, Src.cur, Src.fin, en]
      · simp [c_law_b5, h1, e, er, rng3, okr3, lcRun, lcBody, wipeE, asg_nm, c_law_e0, mkL_f, Src.cur, Src.fin, en]
  · have h1 : kind = 1 := by omega
    have h2 : isL d = true := by
      cases hd : isL d
      · exact absurd (Or.inr hd) hc
      · rfl
    subst h1
    simp [c_law_b5, ei, h2]
end LW

namespace LW
open PySem hiding call truthy
open PySem.W L2 PySem.Spec PyProof.Rows LH
section
variable {cc : Nat → List D → Store → R D} {F : Nat} {a0 a1 a2 a3 a4 q6 q7 q8 q9 q10 : Option D} {S : Store}
theorem in5_ok {door kind : Int} {ys : List D} : ∀ (L : List D) (i : Nat) (q5 : Option D), (∀ d ∈ L, Od d ∧ (kind ≠ 1 ∨ isL d = false → cc 20 [.int door, d] S = .ok (.lst [kd kind, .str (PyData.shown d.py)]) S)) →
    ∃ q, forRun (.fix ys) (.nm 5) (semB cc F c_law_b5) L i [a0, a1, a2, a3, a4, q5, q6, some (.int door), some (.int kind), q9, q10] S = .nx [a0, a1, a2, a3, a4, q, q6, some (.int door), some (.int kind), q9, q10] S
  | [], i, q5, _ => ⟨q5, rfl⟩
  | d :: L, i, q5, h => by
    obtain ⟨q, e⟩ := in5_ok (ys := ys) L (i + 1) (some d) fun x hx => h x (List.mem_cons_of_mem _ hx)
    have h1 := b5_ok (F := F) (a0 := a0) (a1 := a1) (a2 := a2) (a3 := a3) (a4 := a4) (q6 := q6) (q9 := q9) (q10 := q10) (door := door) (kind := kind) S (h d (by simp)).1 (h d (by simp)).2
    refine ⟨q, ?_⟩
    simp only [forRun, Src.cur, asg_nm, List.set_cons_succ, List.set_cons_zero, h1]
    exact e
def tbl : List (Int × Int) := [(0, 0), (1, 0), (2, 1), (3, 2), (4, 1), (5, 2), (6, 2), (7, 2)]
def lsOf (st : List D) (x : Int) (p : Int × Int) : List D := st ++ ((if p.1 = 1 then [.int 0] else []) ++ (if 0 < p.2 then [.int x, .int (-x), .int 0] else []))
theorem b6_ok {st : List D} (hst : st.length ≤ 100) {x : Int} {p : Int × Int} (hp : p ∈ tbl) {q5 : Option D} (h : ∀ d ∈ lsOf st x p, Od d ∧ (p.2 ≠ 1 ∨ isL d = false → cc 20 [.int p.1, d] S = .ok (.lst [kd p.2, .str (PyData.shown d.py)]) S)) :
    ∃ q, semB cc F c_law_b6 [a0, a1, a2, some (.int x), some (.lst st), q5, q6, some (.int p.1), some (.int p.2), q9, q10] S = .nx [a0, a1, a2, some (.int x), some (.lst st), q, q6, some (.int p.1), some (.int p.2), q9, q10] S := by
  obtain ⟨q, e⟩ := in5_ok (cc := cc) (F := F) (a0 := a0) (a1 := a1) (a2 := a2) (a3 := some (.int x)) (a4 := some (.lst st)) (q6 := q6) (q9 := q9) (q10 := q10) (S := S) (ys := lsOf st x p) (lsOf st x p) 0 q5 h
  refine ⟨q, ?_⟩
  have hm : ∀ l : List D, l.length ≤ 8 → mkL false (st ++ l) S = .ok (.lst (st ++ l)) S := fun l hl => mkL_f S _ (Nat.le_trans (by rw [List.length_append]; omega) LMAX_ge)
  have hm0 : mkL false st S = .ok (.lst st) S := mkL_f S _ (Nat.le_trans (by omega) LMAX_ge)
  have hm1 : ∀ d : D, mkL false [d] S = .ok (.lst [d]) S := fun d => mkL_f S _ (by simp)
  have hm2 : mkL false [] S = .ok (.lst []) S := mkL_f S _ (by simp)
  have hm3 : ∀ a b c : D, mkL false [a, b, c] S = .ok (.lst [a, b, c]) S := fun a b c => mkL_f S _ (by simp)
  simp only [tbl, List.mem_cons, List.not_mem_nil, or_false] at hp
  rcases hp with rfl | rfl | rfl | rfl | rfl | rfl | rfl | rfl <;> simp [lsOf] at e <;> simp [c_law_b6, hm, hm0, hm1, hm2, hm3, e]
theorem b2_ok {S1 S2 : Store} {g : Nat} {door r k : Int} {d : D} (ho : Od d) (e1 : cc 17 [.ref g, .int 13] S = .ok (.int r) S1) (e2 : cc 18 [.ref g, .lst [.int 0, .int 12, .int r]] S1 = .ok (.int k) S2) (e3 : cc 20 [.int door, .tup [d, .int k]] S2 = .ok (.lst [kd 2, .str (PyData.shown d.py)]) S2) :
    semB cc F c_law_b2 [a0, a1, some (.ref g), a3, a4, some d, q6, some (.int door), q8, q9, q10] S = .nx [a0, a1, some (.ref g), a3, a4, some d, q6, some (.int door), q8, q9, q10] S2 := by
  have er := fun m => repr_ok (S := S2) (m := m) ho.rk ho.sz
  have en := kds_eq S2 2 (so_ok ho.so)
  generalize PyData.shown d.py = x at *
  simp [kd] at e3 en
  simp [c_law_b2, e1, e2, e3, er, en, mkL_f]
theorem b4_ok {d : D} (ho : Od d) (e3 : cc 20 [.int 8, d] S = .ok (.lst [kd 0, .str (PyData.shown d.py)]) S) :
    semB cc F c_law_b4 [a0, a1, a2, a3, a4, some d, q6, q7, q8, q9, q10] S = .nx [a0, a1, a2, a3, a4, some d, q6, q7, q8, q9, q10] S := by
  have er := fun m => repr_ok (S := S) (m := m) ho.rk ho.sz
  have en := kds_eq S 0 (so_ok ho.so)
  generalize PyData.shown d.py = x at *
  simp [kd] at e3 en
  simp [c_law_b4, e3, er, en, mkL_f]
theorem b1_ok {f : D} (e3 : cc 21 [f, .tup [.int 2, .int 4]] S = .ok (.bl true) S) :
    semB cc F c_law_b1 [a0, a1, a2, a3, a4, a5, some f, q7, q8, q9, q10] S = .nx [a0, a1, a2, a3, a4, a5, some f, q7, q8, q9, q10] S := by
  simp [c_law_b1, e3]
theorem o_mul3 (S : Store) (x : D) : binD false .mul (.lst [x]) (.int 3) S = .ok (.lst [x, x, x]) S := by
  show (match lstD S (.lst [x]) with
    | some xs => if 0 ≤ (3 : Int) ∧ (3 : Int) ≤ LMAX ∧ xs.length * (3 : Int).toNat ≤ LMAX then mkL false ((List.replicate (3 : Int).toNat xs).flatten) S else .no
    | none => .no) = _
  rw [l_lst]
  simp only [List.length_cons, List.length_nil]
  rw [if_pos (by decide)]
  exact mkL_f S [x, x, x] (by simp)
theorem b0_ok {f d : D} (e3 : cc 20 [f, d] S = .ok (.lst [.lst [.bl false, .bl false, .bl false], .non]) S) :
    semB cc F c_law_b0 [a0, a1, a2, a3, a4, a5, a6, some f, q8, some d, q10] S = .nx [a0, a1, a2, a3, a4, a5, a6, some f, q8, some d, q10] S := by
  have en : cmpD S .ne (.lst [.lst [.bl false, .bl false, .bl false], .non]) (.lst [.lst [.bl false, .bl false, .bl false], .non]) = some false := (cmp_self rfl).2
  simp [c_law_b0, e3, en, mkL_f, o_mul3]
end
theorem alone_ok (F n : Nat) (hF : 1000 ≤ F) (S : Store) (f : Str) (hf : f = Str.ofString "sum_of" ∨ f = Str.ofString "product_of") : LH.call prog F (n + 8) 21 [.fn f, .tup [.int 2, .int 4]] S = .ok (.bl true) S := by
  refine call_ret (d := c_law_alone) rfl rfl ?_ (.inr rfl)
  have hb := ckfs_bad F n hF S (d := .tup [.int 2, .int 4]) (jd_pair _ _ (by decide)) (by decide) [] [] (by simp)
  have e1 := sum_bad F n S hb
  have e2 := pro_bad F n S hb
  rw [List.nil_append] at e1 e2
  have e1 : LH.call prog F (n + 7) 11 [.lst [.tup [.int 2, .int 4]]] S = .ex 3 (.tup [.int 2, .int 4]) S := sum_bad F (n + 1) S (ckfs_bad F (n + 1) hF S (d := .tup [.int 2, .int 4]) (jd_pair _ _ (by decide)) (by decide) [] [] (by simp))
  have e2 : LH.call prog F (n + 7) 12 [.lst [.tup [.int 2, .int 4]]] S = .ex 3 (.tup [.int 2, .int 4]) S := pro_bad F (n + 1) S (ckfs_bad F (n + 1) hF S (d := .tup [.int 2, .int 4]) (jd_pair _ _ (by decide)) (by decide) [] [] (by simp))
  have en : cmpD S .eq (.tup [.int 2, .int 4]) (.tup [.int 2, .int 4]) = some true := (cmp_self rfl).1
  have t1 : fnD [((Str.ofString "sum_of"), 11), ((Str.ofString "product_of"), 12)] (.fn (Str.ofString "sum_of")) = some 11 := by decide +kernel
  have t2 : fnD [((Str.ofString "sum_of"), 11), ((Str.ofString "product_of"), 12)] (.fn (Str.ofString "product_of")) = some 12 := by decide +kernel
  rcases hf with rfl | rfl
  · simp [c_law_alone, c_law_alone_y0, startE, asg_nm, mkL_f, t1, e1, en]
  · simp [c_law_alone, c_law_alone_y0, startE, asg_nm, mkL_f, t2, e2, en]
end LW

section
set_option exponentiation.threshold 20000
namespace LW
open PySem hiding call truthy
open PySem.W L2 PySem.Spec PyProof.Rows LH
theorem fo_good (F n : Nat) (hF : 1000 ≤ F) (S : Store) {x : Int} (h0 : 1 ≤ x) (h1 : x ≤ 1000000000) : ∃ v, LH.call prog F (n + 7) 19 [.int 1, .int (-x)] S = .ok v S := by
  have e0 : LH.call prog F (n + 5) 0 [.int 3] S = .ok (.bl true) S := wholeD_ok p_wh F (n + 4) (.int 3) rfl S
  have e1 : LH.call prog F (n + 5) 0 [.int (-x)] S = .ok (.bl true) S := wholeD_ok p_wh F (n + 4) (.int (-x)) rfl S
  have e2 := common_ok (F := F) (n := n + 3) one0 p_com (a := 3) (b := -x) (k := 64) (by omega) (by omega) S
  have hg : (Int.gcd 3 (-x) : Int) ≠ 0 ∧ (Int.gcd 3 (-x)) ≤ 3 := ⟨by
    have : Int.gcd 3 (-x) ≠ 0 := fun e => by
      have := Int.eq_zero_of_gcd_eq_zero_left e
      omega
    omega, Nat.le_of_dvd (by decide) (by
    have := Int.gcd_dvd_left 3 (-x)
    have h2 := Int.natAbs_dvd_natAbs.mpr this
    simpa using h2)⟩
  have hs : smallI (-(Int.gcd 3 (-x) : Int)) = true := small64 (by omega)
  have hx : -x < 0 := by omega
  have hx0 : ¬ (x = 0) := by omega
  generalize (Int.gcd 3 (-x) : Int) = gg at *
  have hg0 : ¬ (gg = 0) := hg.1
  obtain ⟨v, e3⟩ : ∃ v, LH.call prog F (n + 5) 5 [.int 3, .int (-x)] S = .ok v S := by
    refine ⟨_, call_ret (d := c_lowest_of) (v := .tup [.int ((3 : Int).fdiv (-gg)), .int ((-x).fdiv (-gg))]) rfl rfl ?_ (.inr rfl)⟩
    simp [c_lowest_of, startE, asg_nm, e2, hs, show 0 < x by omega, hg0]
  have e4 : LH.call prog F (n + 6) 6 [.int 3, .int (-x)] S = .ok v S := by
    refine call_ret (d := c_fraction_of) rfl rfl ?_ (.inr rfl)
    simp [c_fraction_of, startE, e0, e1, e3, hx0]
  refine ⟨v, call_ret (d := c_law_call) rfl rfl ?_ (.inr rfl)⟩
  simp [c_law_call, startE, e4]
theorem su_good (F n : Nat) (hF : 20000 ≤ F) (S : Store) {x : Int} (h0 : 1 ≤ x) (h1 : x ≤ 1000000000) : ∃ v, LH.call prog F (n + 8) 19 [.int 2, .lst [.tup [.int x, .int 1]]] S = .ok v S := by
  have j : isFr (.tup [.int x, .int 1]) = true := by
    show (decide ((1 : Int) ≤ 1) && decide (Int.gcd x 1 = 1)) = true
    rw [Int.gcd_one]; rfl
  have e1 := ckf_good (jd_pair x 1 (by decide)) j F (n + 1) (by omega) S
  have e0 := ckl_good [.tup [.int x, .int 1]] F (n + 4) S
  have e2 : LH.call prog F (n + 6) 10 [.lst [.tup [.int x, .int 1]]] S = .ok .non S := by
    refine call_nx (d := c_check_fractions) (ρ := [some (.lst [.tup [.int x, .int 1]]), some (.tup [.int x, .int 1])]) rfl rfl ?_ rfl
    simp [c_check_fractions, c_check_fractions_b0, startE, e0, e1, forRun, Src.cur, Src.fin, asg_nm]
  have e3 := lowAt.ok F (n + 5) (0 * 1 + x * 1) (1 * 1) S (by omega) hF (by decide) (Nat.lt_of_lt_of_le (show _ < 2 ^ 64 by omega) (Nat.pow_le_pow_right (by decide) (by decide))) (Nat.lt_of_lt_of_le (show _ < 2 ^ 64 by decide) (Nat.pow_le_pow_right (by decide) (by decide)))
  have e4 : LH.call prog F (n + 6) 7 [.tup [.int 0, .int 1], .tup [.int x, .int 1]] S = .ok (fr (0 * 1 + x * 1) (1 * 1)) S := by
    refine call_ret (d := c_plus_of) rfl rfl ?_ (.inr rfl)
    have s0 : smallI 0 = true := small64 (by decide)
    have s1 : smallI 1 = true := small64 (by decide)
    have sx : smallI x = true := small64 (by omega)
    simp at e3
    simp [c_plus_of, startE, s0, s1, sx, e3]
  have e5 : LH.call prog F (n + 7) 11 [.lst [.tup [.int x, .int 1]]] S = .ok (fr (0 * 1 + x * 1) (1 * 1)) S := by
    refine call_ret (d := c_sum_of) rfl rfl ?_ (.inr rfl)
    generalize fr (0 * 1 + x * 1) (1 * 1) = v at *
    simp [c_sum_of, c_sum_of_b0, startE, e2, e4, forRun, Src.cur, Src.fin, asg_nm]
  refine ⟨fr (0 * 1 + x * 1) (1 * 1), call_ret (d := c_law_call) rfl rfl ?_ (.inr rfl)⟩
  generalize fr (0 * 1 + x * 1) (1 * 1) = v at *
  simp [c_law_call, startE, e5]
end LW

end

section
set_option exponentiation.threshold 20000
namespace LW
open PySem hiding call truthy
open PySem.W L2 PySem.Spec PyProof.Rows LH
theorem lim2 {x : Nat} (h : x ≤ 1000000) : x ≤ 2 ^ 3000 := by
  have h1 : (2 : Nat) ^ 20 ≤ 2 ^ 3000 := Nat.pow_le_pow_right (by decide) (by decide)
  have h2 : (1048576 : Nat) = 2 ^ 20 := by decide
  omega
def stOf (x : Int) : List D := (odl x).filter fun d => !decide (PyData.shown d.py = sOne)
theorem stOf_od {x : Int} (h0 : 1 ≤ x) (h1 : x ≤ 1000000000) : ∀ d ∈ stOf x, isW d = false ∧ Od d := by
  intro d hd
  obtain ⟨h2, h3⟩ := List.mem_filter.mp hd
  have h4 := odl_od h0 h1 d h2
  exact ⟨h4.1, h4.2.1 (by simpa using h3)⟩
theorem stOf_len (x : Int) : (stOf x).length ≤ 18 := List.length_filter_le ..
def strD (x : Int) : D := .lst (odl x)
theorem tup_jd {d : D} : True := trivial
/-- what each door does -/
theorem doors_ok (S : Store) {x : Int} (h0 : 1 ≤ x) (h1 : x ≤ 1000000000) : ∀ p ∈ tbl, ∀ d ∈ lsOf (stOf x) x p, Od d ∧ (p.2 ≠ 1 ∨ isL d = false → LH.call prog 1000000 11 20 [.int p.1, d] S = .ok (.lst [kd p.2, .str (PyData.shown d.py)]) S) := by
  intro p hp d hd
  have ho : Od d ∧ (p.2 = 0 → isW d = false ∨ p.1 = 1 ∧ d = .int 0) := by
    unfold lsOf at hd
    rw [List.mem_append, List.mem_append] at hd
    rcases hd with hd | hd | hd
    · have := stOf_od h0 h1 d hd
      exact ⟨this.2, fun _ => .inl this.1⟩
    · split at hd
      · rename_i hp1
        simp at hd
        subst hd
        exact ⟨od_int (by omega), fun _ => .inr ⟨hp1, rfl⟩⟩
      · cases hd
    · split at hd
      · rename_i hp2
        simp at hd
        refine ⟨?_, fun e => absurd e (by omega)⟩
        rcases hd with rfl | rfl | rfl
        · exact od_int (by omega)
        · exact od_int (by omega)
        · exact od_int (by omega)
      · cases hd
  obtain ⟨ho, hw⟩ := ho
  refine ⟨ho, fun hc => ?_⟩
  have F0 : 1000 ≤ 1000000 := by decide
  simp only [tbl, List.mem_cons, List.not_mem_nil, or_false] at hp
  rcases hp with rfl | rfl | rfl | rfl | rfl | rfl | rfl | rfl
  · exact caught_ex 1000000 10 S (door0 1000000 3 S d ho.jd.ty ((hw rfl).resolve_right (by simp))) ho.rk ho.sz
  · exact caught_ex 1000000 10 S (door1 1000000 3 S d ho.jd.ty ((hw rfl).imp id And.right)) ho.rk ho.sz
  · exact caught_ex 1000000 10 S (door2 1000000 3 S d ho.jd.ty (hc.resolve_left (by simp))) ho.rk ho.sz
  · exact caught_ex 1000000 10 S (door3 1000000 3 F0 S d ho.jd ho.nf) ho.rk ho.sz
  · exact caught_ex 1000000 10 S (door4 1000000 3 S d ho.jd.ty (hc.resolve_left (by simp))) ho.rk ho.sz
  · exact caught_ex 1000000 10 S (door5 1000000 3 F0 S d ho.jd ho.nf) ho.rk ho.sz
  · exact caught_ex 1000000 10 S (door6 1000000 3 F0 S d ho.jd ho.nf) ho.rk ho.sz
  · exact caught_ex 1000000 10 S (door7 1000000 3 F0 S d ho.jd ho.nf) ho.rk ho.sz
def od8 : List D := [.int 0, .non, .bl true, .str ⟨#[48]⟩, .lst [.int 0]]
theorem od8_ok (S : Store) : ∀ d ∈ od8, Od d ∧ LH.call prog 1000000 11 20 [.int 8, d] S = .ok (.lst [kd 0, .str (PyData.shown d.py)]) S := by
  intro d hd
  have key : Od d ∧ (isW d = false ∨ d = .int 0) := by
    simp only [od8, List.mem_cons, List.not_mem_nil, or_false] at hd
    rcases hd with rfl | rfl | rfl | rfl | rfl
    · exact ⟨od_int (by decide), .inr rfl⟩
    all_goals exact ⟨⟨⟨rfl, fun xs e => (nomatch e), fun a b e => (nomatch e)⟩, by decide +kernel, by decide +kernel, by decide +kernel, by decide +kernel⟩, .inl rfl⟩
  exact ⟨key.1, caught_ex 1000000 10 S (door8 1000000 3 S d key.1.jd.ty key.2) key.1.rk key.1.sz⟩
section
variable {a0 a1 a3 a4 q6 q8 q9 q10 : Option D}
theorem b3_ok {S : Store} {g m : Nat} (hg : GenAt S g m) (hm : m + 400 ≤ 2 ^ 3000) {d : D} (ho : Od d) (q7 : Option D) :
    ∃ S' p7, semB (LH.call prog 1000000 11) 1000000 c_law_b3 [a0, a1, some (.ref g), a3, a4, some d, q6, q7, q8, q9, q10] S = .nx [a0, a1, some (.ref g), a3, a4, some d, q6, p7, q8, q9, q10] S' ∧ GenAt S' g (m + 400) ∧ SameBut g S S' := by
  have one : ∀ (t : Int) (S : Store) (m : Nat), (t = 9 ∨ t = 10) → GenAt S g m → m + 200 ≤ 2 ^ 3000 → ∃ S', semB (LH.call prog 1000000 11) 1000000 c_law_b2 [a0, a1, some (.ref g), a3, a4, some d, q6, some (.int t), q8, q9, q10] S = .nx [a0, a1, some (.ref g), a3, a4, some d, q6, some (.int t), q8, q9, q10] S' ∧ GenAt S' g (m + 200) ∧ SameBut g S S' := by
    intro t S m ht hg hm
    obtain ⟨r, S1, e1, r0, r1, g1, s1⟩ := random_ok (F := 1000000) (n := 9) p_hash p_random hg (by omega) (b := 13) (by decide) (by
      show 13 < 2 ^ 1000
      exact Nat.lt_of_lt_of_le (show 13 < 2 ^ 4 by decide) (Nat.pow_le_pow_right (by decide) (by decide)))
    obtain ⟨k, S2, hk, e2, g2, s2⟩ := pick_ok (F := 1000000) (n := 8) p_hash p_random p_pick g1 (by omega) (xs := [.int 0, .int 12, .int r]) (by simp) (by simp)
    have hk2 : ∃ z : Int, k = .int z ∧ 0 ≤ z ∧ z ≤ 12 := by
      simp at hk
      rcases hk with rfl | rfl | rfl
      · exact ⟨0, rfl, by decide, by decide⟩
      · exact ⟨12, rfl, by decide, by decide⟩
      · exact ⟨r, rfl, r0, by omega⟩
    obtain ⟨z, rfl, z0, z1⟩ := hk2
    have e3 : LH.call prog 1000000 11 20 [.int t, .tup [d, .int z]] S2 = .ok (.lst [kd 2, .str (PyData.shown d.py)]) S2 :=
      caught_ex 1000000 10 S2 (door9 1000000 3 (by decide) S2 d ho.jd ho.nf t ht z z0 z1) ho.rk ho.sz
    exact ⟨S2, b2_ok ho e1 e2 e3, g2, s1.trans s2⟩
  obtain ⟨S1, e1, g1, s1⟩ := one 9 S m (.inl rfl) hg (by omega)
  obtain ⟨S2, e2, g2, s2⟩ := one 10 S1 (m + 200) (.inr rfl) g1 (by omega)
  refine ⟨S2, some (.int 10), ?_, g2, s1.trans s2⟩
  have hl : [D.int 9, .int 10].length ≤ LMAX := by decide
  generalize LH.call prog 1000000 11 = cc at *
  simp [c_law_b3, mkL_f, forRun, Src.cur, Src.fin, asg_nm, e1, e2]
end
theorem odl_run {cc : Nat → List D → Store → R D} {S : Store} {x : Int} {ys : List D} (h0 : 1 ≤ x) (h1 : x ≤ 1000000000) (a0 a1 a2 a3 a4 a5 a6 a7 a8 a9 a10 : Option D) (i : Nat) :
    lcRun (.fix ys) (lcBody (.nm 5) [5] (semC cc c_law_q0) (semE cc c_law_e1) [a0, a1, a2, a3, a4, a5, a6, a7, a8, a9, a10]) (odl x) i S = .ok (stOf x) S := by
  have := lc_sel (ys := ys) (S := S) (body := lcBody (.nm 5) [5] (semC cc c_law_q0) (semE cc c_law_e1) [a0, a1, a2, a3, a4, a5, a6, a7, a8, a9, a10]) id id (fun d => !decide (PyData.shown d.py = sOne)) (odl x) i (by
    intro d hd
    have h2 := odl_od h0 h1 d hd
    have er := fun m => repr_ok (S := S) (m := m) h2.2.2.1 h2.2.2.2
    have es : (⟨#[40, 49, 44, 32, 49, 41]⟩ : Str) = sOne := rfl
    generalize PyData.shown d.py = y at *
    simp [lcBody, wipeE, asg_nm, c_law_q0, c_law_e1, er, es]
    by_cases hy : y = sOne <;> simp [hy])
  rw [List.map_id, List.map_id] at this
  exact this
end LW

end

section
set_option exponentiation.threshold 20000
namespace LW
open PySem hiding call truthy
open PySem.W L2 PySem.Spec PyProof.Rows LH
def tblD : List D := tbl.map fun p => .tup [.int p.1, .int p.2]
section
variable {a0 a1 a2 a3 a4 q5 q6 q7 q8 q9 q10 : Option D}
theorem F1 (S : Store) {x : Int} (h0 : 1 ≤ x) (h1 : x ≤ 1000000000) : ∃ p5 p7 p8, forRun (.fix tblD) (.tp (.cons (.nm 7) (.cons (.nm 8) .nil))) (semB (LH.call prog 1000000 11) 1000000 c_law_b6) tblD 0 [a0, a1, a2, some (.int x), some (.lst (stOf x)), q5, q6, q7, q8, q9, q10] S = .nx [a0, a1, a2, some (.int x), some (.lst (stOf x)), p5, q6, p7, p8, q9, q10] S := by
  obtain ⟨ρ', S', e, ⟨p5, p7, p8, rfl⟩, rfl⟩ := for_fix0 (g := .tp (.cons (.nm 7) (.cons (.nm 8) .nil))) (ys := tblD) (body := semB (LH.call prog 1000000 11) 1000000 c_law_b6) (fun _ ρ S' => (∃ p5 p7 p8, ρ = [a0, a1, a2, some (.int x), some (.lst (stOf x)), p5, q6, p7, p8, q9, q10]) ∧ S' = S) tblD [a0, a1, a2, some (.int x), some (.lst (stOf x)), q5, q6, q7, q8, q9, q10] S ⟨⟨_, _, _, rfl⟩, rfl⟩ (by
    rintro k d ρ S' hk ⟨⟨p5, p7, p8, rfl⟩, rfl⟩
    obtain ⟨p, hp, rfl⟩ := List.mem_map.mp (List.mem_of_getElem? hk)
    obtain ⟨q, e⟩ := b6_ok (cc := LH.call prog 1000000 11) (F := 1000000) (a0 := a0) (a1 := a1) (a2 := a2) (q6 := q6) (q9 := q9) (q10 := q10) (S := S') (Nat.le_trans (stOf_len x) (by decide)) hp (q5 := p5) (doors_ok S' h0 h1 p hp)
    exact ⟨[a0, a1, a2, some (.int x), some (.lst (stOf x)), p5, q6, some (.int p.1), some (.int p.2), q9, q10], _, S', by simp [asgG, asgL], .inl e, ⟨_, _, _, rfl⟩, rfl⟩)
  exact ⟨p5, p7, p8, e⟩
theorem F2 (S : Store) : ∃ p5, forRun (.fix od8) (.nm 5) (semB (LH.call prog 1000000 11) 1000000 c_law_b4) od8 0 [a0, a1, a2, a3, a4, q5, q6, q7, q8, q9, q10] S = .nx [a0, a1, a2, a3, a4, p5, q6, q7, q8, q9, q10] S := by
  obtain ⟨ρ', S', e, ⟨p5, rfl⟩, rfl⟩ := for_fix0 (g := .nm 5) (ys := od8) (body := semB (LH.call prog 1000000 11) 1000000 c_law_b4) (fun _ ρ S' => (∃ p5, ρ = [a0, a1, a2, a3, a4, p5, q6, q7, q8, q9, q10]) ∧ S' = S) od8 [a0, a1, a2, a3, a4, q5, q6, q7, q8, q9, q10] S ⟨⟨_, rfl⟩, rfl⟩ (by
    rintro k d ρ S' hk ⟨⟨p5, rfl⟩, rfl⟩
    have h := od8_ok S' d (List.mem_of_getElem? hk)
    exact ⟨_, _, S', rfl, .inl (b4_ok h.1 h.2), ⟨_, rfl⟩, rfl⟩)
  exact ⟨p5, e⟩
theorem F3 {L : List D} (hL : ∀ d ∈ L, Od d) (hl : L.length ≤ 100) {S : Store} {g m : Nat} (hg : GenAt S g m) (hm : m + 40000 ≤ 2 ^ 3000) : ∃ S' p5 p7, forRun (.fix L) (.nm 5) (semB (LH.call prog 1000000 11) 1000000 c_law_b3) L 0 [a0, a1, some (.ref g), a3, a4, q5, q6, q7, q8, q9, q10] S = .nx [a0, a1, some (.ref g), a3, a4, p5, q6, p7, q8, q9, q10] S' ∧ GenAt S' g (m + 40000) ∧ SameBut g S S' := by
  obtain ⟨ρ', S', e, ⟨p5, p7, rfl⟩, g1, s1⟩ := for_fix0 (g := .nm 5) (ys := L) (body := semB (LH.call prog 1000000 11) 1000000 c_law_b3) (fun t ρ S' => (∃ p5 p7, ρ = [a0, a1, some (.ref g), a3, a4, p5, q6, p7, q8, q9, q10]) ∧ GenAt S' g (m + 400 * t) ∧ SameBut g S S') L [a0, a1, some (.ref g), a3, a4, q5, q6, q7, q8, q9, q10] S ⟨⟨_, _, rfl⟩, hg, .refl _ _⟩ (by
    rintro t d ρ S' hk ⟨⟨p5, p7, rfl⟩, g1, s1⟩
    have ht := (List.getElem?_eq_some_iff.mp hk).1
    obtain ⟨S2, r7, e, g2, s2⟩ := b3_ok (a0 := a0) (a1 := a1) (a3 := a3) (a4 := a4) (q6 := q6) (q8 := q8) (q9 := q9) (q10 := q10) g1 (by omega) (hL d (List.mem_of_getElem? hk)) p7
    exact ⟨_, _, S2, rfl, .inl e, ⟨_, _, rfl⟩, by rw [Nat.mul_add]; exact g2, s1.trans s2⟩)
  exact ⟨S', p5, p7, e, g1.mono (by omega), s1⟩
end
/-- a turn, from what it calls -/
theorem turn_run {cc : Nat → List D → Store → R D} {x r : Int} {i : Nat} {S S1 S2 : Store} {Q : Store → Prop} {g : Nat} {ns : D} (hx : x = 1 + r) (h0 : 1 ≤ x) (h1 : x ≤ 1000000000) (q2 q3 q4 q5 q6 q7 q8 q9 q10 : Option D)
    (eg : cc 16 [ns, .int (i : Int)] S = .ok (.ref g) S1) (er : cc 17 [.ref g, .int (10 ^ 9)] S1 = .ok (.int r) S2)
    (f1 : ∀ q5 q6 q7 q8 q9 q10, ∃ p5 p7 p8, forRun (.fix tblD) (.tp (.cons (.nm 7) (.cons (.nm 8) .nil))) (semB cc 1000000 c_law_b6) tblD 0 [some ns, some (.int (i : Int)), some (.ref g), some (.int x), some (.lst (stOf x)), q5, q6, q7, q8, q9, q10] S2 = .nx [some ns, some (.int (i : Int)), some (.ref g), some (.int x), some (.lst (stOf x)), p5, q6, p7, p8, q9, q10] S2)
    (f2 : ∀ q5 q6 q7 q8 q9 q10, ∃ p5, forRun (.fix od8) (.nm 5) (semB cc 1000000 c_law_b4) od8 0 [some ns, some (.int (i : Int)), some (.ref g), some (.int x), some (.lst (stOf x)), q5, q6, q7, q8, q9, q10] S2 = .nx [some ns, some (.int (i : Int)), some (.ref g), some (.int x), some (.lst (stOf x)), p5, q6, q7, q8, q9, q10] S2)
    (f3 : ∀ q5 q6 q7 q8 q9 q10, ∃ S3 p5 p7, forRun (.fix (stOf x ++ [.int x])) (.nm 5) (semB cc 1000000 c_law_b3) (stOf x ++ [.int x]) 0 [some ns, some (.int (i : Int)), some (.ref g), some (.int x), some (.lst (stOf x)), q5, q6, q7, q8, q9, q10] S2 = .nx [some ns, some (.int (i : Int)), some (.ref g), some (.int x), some (.lst (stOf x)), p5, q6, p7, q8, q9, q10] S3 ∧ Q S3)
    (f4 : ∀ S3 f, f = Str.ofString "sum_of" ∨ f = Str.ofString "product_of" → cc 21 [.fn f, .tup [.int 2, .int 4]] S3 = .ok (.bl true) S3)
    (f5 : ∀ S3, cc 20 [.int 1, .int (-x)] S3 = .ok (.lst [.lst [.bl false, .bl false, .bl false], .non]) S3) (f6 : ∀ S3, cc 20 [.int 2, .lst [.tup [.int x, .int 1]]] S3 = .ok (.lst [.lst [.bl false, .bl false, .bl false], .non]) S3)
    (f7 : ∀ S3, cc 20 [.int 3, .tup [.int x, .int 1]] S3 = .ok (.lst [kd 2, .str (PyData.shown .none)]) S3) :
    ∃ S3 p5 p6 p7 p8 p9 p10, semB cc 1000000 c_law_b7 [some ns, some (.int (i : Int)), q2, q3, q4, q5, q6, q7, q8, q9, q10] S = .nx [some ns, some (.int (i : Int)), some (.ref g), some (.int x), some (.lst (stOf x)), p5, p6, p7, p8, p9, p10] S3 ∧ Q S3 := by
  obtain ⟨b5, b7, b8, e1⟩ := f1 q5 q6 q7 q8 q9 q10
  obtain ⟨c5, e2⟩ := f2 b5 q6 b7 b8 q9 q10
  obtain ⟨S3, d5, d7, e3, hQ⟩ := f3 c5 q6 b7 b8 q9 q10
  have f4 := f4 S3
  have f5 := f5 S3
  have f6 := f6 S3
  have f7 := f7 S3
  have t4 := f4 _ (.inl rfl)
  have t5 := f4 _ (.inr rfl)
  have sx : smallI x = true := small64 (by omega)
  have s2 : smallI 2 = true := small64 (by decide)
  have e4 : ∀ S, lcRun (.fix (odl x)) (lcBody (.nm 5) [5] (semC cc c_law_q0) (semE cc c_law_e1) [some ns, some (.int (i : Int)), some (.ref g), some (.int x), some (.lst (odl x)), q5, q6, q7, q8, q9, q10]) (odl x) 0 S = .ok (stOf x) S := fun S => odl_run h0 h1 _ _ _ _ _ _ _ _ _ _ _ 0
  have hm : mkL false (stOf x) S2 = .ok (.lst (stOf x)) S2 := mkL_f _ _ (Nat.le_trans (stOf_len x) (by decide))
  have hm1 : mkL false (stOf x ++ [.int x]) S2 = .ok (.lst (stOf x ++ [.int x])) S2 := mkL_f _ _ (by rw [List.length_append]; exact Nat.le_trans (Nat.add_le_add_right (stOf_len x) 1) (by decide))
  have er0 : ∀ m, biD m .repr [.non] S3 = .ok (.str (PyData.shown .none)) S3 := fun m => repr_ok (S := S3) (m := m) (d := .non) (by decide) (by decide)
  have en : cmpD S3 .ne (.lst [kd 2, .str (PyData.shown .none)]) (.lst [kd 2, .str (PyData.shown .none)]) = some false := kds_eq S3 2 (so_ok (d := .non) rfl)
  have b1 := fun q => b1_ok (F := 1000000) (cc := cc) (S := S3) (a0 := some ns) (a1 := some (.int (i : Int))) (a2 := some (.ref g)) (a3 := some (.int x)) (a4 := some (.lst (stOf x))) (a5 := d5) (q7 := d7) (q8 := b8) (q9 := q) (q10 := q10) t4
  have b2 := fun q => b1_ok (F := 1000000) (cc := cc) (S := S3) (a0 := some ns) (a1 := some (.int (i : Int))) (a2 := some (.ref g)) (a3 := some (.int x)) (a4 := some (.lst (stOf x))) (a5 := d5) (q7 := d7) (q8 := b8) (q9 := q) (q10 := q10) t5
  have b3 := fun a6 => b0_ok (F := 1000000) (cc := cc) (S := S3) (a0 := some ns) (a1 := some (.int (i : Int))) (a2 := some (.ref g)) (a3 := some (.int x)) (a4 := some (.lst (stOf x))) (a5 := d5) (a6 := a6) (q8 := b8) (q10 := q10) f5
  have b4 := fun a6 => b0_ok (F := 1000000) (cc := cc) (S := S3) (a0 := some ns) (a1 := some (.int (i : Int))) (a2 := some (.ref g)) (a3 := some (.int x)) (a4 := some (.lst (stOf x))) (a5 := d5) (a6 := a6) (q8 := b8) (q10 := q10) f6
  have hodl : ∀ S, mkL false [.non, .bl true, .bl false, .str ⟨#[]⟩, .str ⟨#[49]⟩, .dct false [] [], .tup [], .tup [.str ⟨#[97]⟩], .lst [.int 1, .int 2], .tup [.int 1, .int 2, .int 3], .tup [.int 2, .int 4], .tup [.int 1, .int 0], .tup [.int 1, .int (-2)], .tup [.int 0, .int 2], .tup [.bl true, .int 2], .tup [.int 1, .bl true], .tup [.int x, .int x], .tup [.int (x * 2), .int 2]] S = .ok (.lst (odl x)) S := fun S => mkL_f _ _ (by simp)
  have ht : ∀ S, mkL false [.int 0, .int 0, .int 1, .int 2, .int 1, .int 2, .int 2, .int 2] S = .ok (.lst [.int 0, .int 0, .int 1, .int 2, .int 1, .int 2, .int 2, .int 2]) S := fun S => mkL_f _ _ (by simp)
  have h8 : ∀ S, mkL false [.int 0, .non, .bl true, .str ⟨#[48]⟩, .lst [.int 0]] S = .ok (.lst od8) S := fun S => mkL_f _ _ (by simp)
  have he : List.map (fun p : Nat × D => D.tup [.int (p.1 : Int), p.2]) ((List.range 8).zip [D.int 0, .int 0, .int 1, .int 2, .int 1, .int 2, .int 2, .int 2]) = tblD := rfl
  have mk1 : ∀ (a : D) (S : Store), mkL false [a] S = .ok (.lst [a]) S := fun a S => mkL_f S _ (by simp)
  have mk2 : ∀ (a b : D) (S : Store), mkL false [a, b] S = .ok (.lst [a, b]) S := fun a b S => mkL_f S _ (by simp)
  have mk3 : ∀ (a b c : D) (S : Store), mkL false [a, b, c] S = .ok (.lst [a, b, c]) S := fun a b c S => mkL_f S _ (by simp)
  have hz : mkD false false [] S2 = .ok (.dct false [] []) S2 := rfl
  refine ⟨S3, d5, some (.fn (Str.ofString "product_of")), some (.int 2), b8, some (.lst [.tup [.int x, .int 1]]), q10, ?_, hQ⟩
  generalize stOf x = st at *
  generalize odl x = od at *
  generalize od8 = l8 at *
  simp at er
  simp [kd] at f7 en
  have hx' : 1 + r = x := hx.symm
  generalize PyData.shown .none = sn at *
  simp [c_law_b7, asg_nm, eg, er, hx', sx, s2, hz, hodl, e4, hm, ht, he, e1, h8, e2, hm1, e3, mk1, mk2, mk3, forRun, Src.cur, Src.fin, asgG, asgL, b1, b2, b3, b4, f7, er0, en]
end LW

end

section
set_option exponentiation.threshold 20000
namespace LW
open PySem hiding call truthy
open PySem.W L2 PySem.Spec PyProof.Rows LH
theorem turn_ok {S : Store} {i : Nat} (hi : i < 3) (ns : List Int) (hn : ns.length ≤ 63) (hg : GenOnly S) (q2 q3 q4 q5 q6 q7 q8 q9 q10 : Option D) :
    ∃ S' p2 p3 p4 p5 p6 p7 p8 p9 p10, semB (LH.call prog 1000000 11) 1000000 c_law_b7 [some (.scr ns), some (.int (i : Int)), q2, q3, q4, q5, q6, q7, q8, q9, q10] S = .nx [some (.scr ns), some (.int (i : Int)), p2, p3, p4, p5, p6, p7, p8, p9, p10] S' ∧ GenOnly S' ∧ S'.length = S.length + 1 := by
  obtain ⟨a, b, b0, b1, eg⟩ := generator_ok (F := 1000000) (n := 9) p_cell p_gen ns (by omega) i (by omega) S
  obtain ⟨S1, hS1⟩ : ∃ S1, S1 = S ++ [.lst [.int a, .int b, .int (1000 * (i : Int))]] := ⟨_, rfl⟩
  have hg1 : GenAt S1 S.length 2000 := by rw [hS1]; exact gen_new S b0 b1 (by omega) (by omega)
  rw [← hS1] at eg
  have go1 : GenOnly S1 := fun j o ho => by
    rw [hS1] at ho
    by_cases hj : j < S.length
    · rw [List.getElem?_append_left hj] at ho
      exact hg j o ho
    · rw [List.getElem?_append_right (by omega)] at ho
      have : j - S.length = 0 := by
        have := (List.getElem?_eq_some_iff.mp ho).1
        simpa using this
      rw [this] at ho
      simp at ho
      exact ⟨a, b, _, ho.symm⟩
  obtain ⟨r, S2, er, r0, r1, g2, s2⟩ := random_ok (F := 1000000) (n := 9) p_hash p_random hg1 (lim2 (by omega)) (b := 10 ^ 9) (by decide) (Nat.lt_of_lt_of_le (show _ < 2 ^ 64 by decide) (Nat.pow_le_pow_right (by decide) (by decide)))
  obtain ⟨x, hx⟩ : ∃ x, x = 1 + r := ⟨_, rfl⟩
  have r1' : r < 1000000000 := r1
  have h0 : 1 ≤ x := by omega
  have h1 : x ≤ 1000000000 := by omega
  have hL : ∀ d ∈ stOf x ++ [.int x], Od d := by
    intro d hd
    rcases List.mem_append.mp hd with hd | hd
    · exact (stOf_od h0 h1 d hd).2
    · simp at hd
      subst hd
      exact od_int (by omega)
  have hl : (stOf x ++ [D.int x]).length ≤ 100 := by
    have := stOf_len x
    rw [List.length_append, List.length_singleton]
    omega
  have f3 : ∀ q5 q6 q7 q8 q9 q10, ∃ S3 p5 p7, forRun (.fix (stOf x ++ [.int x])) (.nm 5) (semB (LH.call prog 1000000 11) 1000000 c_law_b3) (stOf x ++ [.int x]) 0 [some (.scr ns), some (.int (i : Int)), some (.ref S.length), some (.int x), some (.lst (stOf x)), q5, q6, q7, q8, q9, q10] S2 = .nx [some (.scr ns), some (.int (i : Int)), some (.ref S.length), some (.int x), some (.lst (stOf x)), p5, q6, p7, q8, q9, q10] S3 ∧ GenOnly S3 ∧ S3.length = S2.length := by
    intro q5 q6 q7 q8 q9 q10
    obtain ⟨S3, p5, p7, e, g3, s3⟩ := F3 (a0 := some (.scr ns)) (a1 := some (.int (i : Int))) (a3 := some (.int x)) (a4 := some (.lst (stOf x))) (q5 := q5) (q6 := q6) (q7 := q7) (q8 := q8) (q9 := q9) (q10 := q10) hL hl g2 (lim2 (by omega))
    exact ⟨S3, p5, p7, e, (go1.but s2 g2).but s3 g3, s3.1⟩
  have e5 := fun S3 => fo_good 1000000 3 (by decide) S3 h0 h1
  have e6 := fun S3 => su_good 1000000 2 (by decide) S3 h0 h1
  have j1 : isFr (.tup [.int x, .int 1]) = true := by
    show (decide ((1 : Int) ≤ 1) && decide (Int.gcd x 1 = 1)) = true
    rw [Int.gcd_one]; rfl
  have hb : ∀ S3, LH.call prog 1000000 8 10 [.lst [.tup [.int 1, .int 2], .tup [.int x, .int 1], .non]] S3 = .ex 3 .non S3 := fun S3 =>
    ckfs_bad 1000000 3 (by decide) S3 (d := .non) ⟨rfl, fun xs e => (nomatch e), fun a b e => (nomatch e)⟩ rfl [.tup [.int 1, .int 2], .tup [.int x, .int 1]] [] (by
      intro d hd
      simp at hd
      rcases hd with rfl | rfl
      · exact fr12
      · exact ⟨jd_pair _ _ (by decide), j1⟩)
  have e7 : ∀ S3, LH.call prog 1000000 10 19 [.int 3, .tup [.int x, .int 1]] S3 = .ex 3 .non S3 := by
    intro S3
    refine call_ex (d := c_law_call) (ρ := [some (.int 3), some (.tup [.int x, .int 1]), none]) rfl rfl ?_ rfl
    have e := sum_bad 1000000 3 S3 (hb S3)
    have mk3 : ∀ (a b c : D) (S : Store), mkL false [a, b, c] S = .ok (.lst [a, b, c]) S := fun a b c S => mkL_f S _ (by simp)
    simp [c_law_call, startE, e, mk3]
  obtain ⟨S3, p5, p6, p7, p8, p9, p10, e, g3, l3⟩ := turn_run (cc := LH.call prog 1000000 11) (Q := fun S3 => GenOnly S3 ∧ S3.length = S2.length) hx h0 h1 q2 q3 q4 q5 q6 q7 q8 q9 q10 eg er (fun _ _ _ _ _ _ => F1 S2 h0 h1) (fun _ _ _ _ _ _ => F2 S2) f3 (fun S3 f hf => alone_ok 1000000 3 (by decide) S3 f hf) (fun S3 => caught_no 1000000 10 S3 (e5 S3).choose_spec) (fun S3 => caught_no 1000000 10 S3 (e6 S3).choose_spec) (fun S3 => caught_ex 1000000 10 S3 (e7 S3) (by decide) (by decide))
  exact ⟨S3, _, _, _, _, _, _, _, _, _, e, g3, by rw [l3, s2.1, hS1, List.length_append]; rfl⟩
theorem res : ∀ ns : List Int, ns.length ≤ 63 → ∃ S, LH.call prog 1000000 12 22 [.scr ns] [] = .ok (.bl true) S := by
  intro ns hn
  obtain ⟨ρ', S', e, hl, hgo, q1, q2, q3, q4, q5, q6, q7, q8, q9, q10, rfl⟩ := for_fix0 (g := .nm 1) (ys := rngD 0 3) (body := semB (LH.call prog 1000000 11) 1000000 c_law_b7) (fun t ρ S' => S'.length = t ∧ GenOnly S' ∧ ∃ q1 q2 q3 q4 q5 q6 q7 q8 q9 q10, ρ = [some (.scr ns), q1, q2, q3, q4, q5, q6, q7, q8, q9, q10]) (rngD 0 3) [some (.scr ns), none, none, none, none, none, none, none, none, none, none] [] ⟨rfl, fun i o h => by simp at h, _, _, _, _, _, _, _, _, _, _, rfl⟩ (by
    rintro t x ρ S' hx ⟨hl, hgo, q1, q2, q3, q4, q5, q6, q7, q8, q9, q10, rfl⟩
    obtain ⟨rfl, ht⟩ := rng_at hx
    obtain ⟨S2, p2, p3, p4, p5, p6, p7, p8, p9, p10, e, g2, l2⟩ := turn_ok (i := t) (by omega) ns hn hgo q2 q3 q4 q5 q6 q7 q8 q9 q10
    exact ⟨_, _, S2, rfl, .inl e, by omega, g2, _, _, _, _, _, _, _, _, _, _, rfl⟩)
  have hb : semB (LH.call prog 1000000 11) 1000000 c_law.body (startE c_law [.scr ns]) [] = .rt (.bl true) S' := by
    have ok3 : okR 3 = true := rfl
    generalize LH.call prog 1000000 11 = cc at *
    simp [c_law, startE, ok3, asg_nm, e]
  refine ⟨[], ?_⟩
  have hfin := fin_plain (S := S') (b := 0) (k := 0) (v := .bl true) rfl (fun i o hi ho => absurd hi (Nat.not_lt_zero i)) (Nat.zero_le _)
  rw [call_rt (d := c_law) rfl rfl hb]
  exact hfin
end LW

end


open PySem PySem.W PyProof.Rows
set_option maxHeartbeats 0 in
theorem PySem.Challenge.cw_lottohouse_k04_fractions_refused_holds : PySem.Challenge.rw_lottohouse_k04_fractions_refused.Holds := by
  w_on; o_law; k_head; (case hw => w_witness2)
  k_fill
  refine LH.walk_G (l := PySem.Challenge.rw_lottohouse_k04_fractions_refused) (n := 63) (k := 15) (dp := 12) (x := "script") (fuel := 1000000) (i := 22) (CP := LW.prog) rfl (by decide) rfl ⟨rfl, by decide, by decide⟩ (by decide +kernel) (fun w h Y => PySem.W.kIn_of Y) ?F LW.res
  case F =>
    intro w mg fa h KX G hmg
    refine' LW.all_mk KX G hmg ?a0 ?l0 ?c0 ?k0 ?a1 ?l1 ?c1 ?k1 ?a2 ?l2 ?c2 ?k2 ?a3 ?l3 ?c3 ?k3 ?a4 ?l4 ?c4 ?k4 ?a5 ?l5 ?c5 ?k5 ?a6 ?l6 ?c6 ?k6 ?a7 ?l7 ?c7 ?k7 ?a8 ?l8 ?c8 ?k8 ?a9 ?l9 ?c9 ?k9 ?a10 ?l10 ?c10 ?k10 ?a11 ?l11 ?c11 ?k11 ?a12 ?l12 ?c12 ?k12 ?a13 ?l13 ?c13 ?k13 ?a14 ?l14 ?c14 ?k14 ?a15 ?l15 ?c15 ?k15 ?a16 ?l16 ?c16 ?k16 ?a17 ?l17 ?c17 ?k17 ?a18 ?l18 ?c18 ?k18 ?a19 ?l19 ?c19 ?k19 ?a20 ?l20 ?c20 ?k20 ?a21 ?l21 ?c21 ?k21 ?a22 ?l22 ?c22 ?k22 ?z0 ?z1 ?z2 ?z3 ?z4 ?z5 ?z6 ?z7 ?z8 ?z9 ?z10 ?z11 ?xa ?xf ?xl ?xq ?xm ?xn ?xd ?xs ?xp ?xt ?xu ?xg ?xk ?xy ?xv ?xw ?xz ?xdv ?xa2 ?xl2 ?xi2 ?xe2 ?xv2 ?xg2 ?xh2 ?xj2 ?xkp2 ?xne2 ?xa3 ?xl3 ?xi3 ?xe3 ?xv3 ?xg3 ?xh3 ?xj3 ?xkp3 ?xne3 ?xa5 ?xl5 ?xi5 ?xe5 ?xv5 ?xg5 ?xh5 ?xj5 ?xkp5 ?xne5
    (case a0 => k_is); (case l0 => k_is); (case c0 => k_is); (case k0 => k_is); (case a1 => k_is); (case l1 => k_is); (case c1 => k_is); (case k1 => k_is); (case a2 => k_is); (case l2 => k_is); (case c2 => k_is); (case k2 => k_is); (case a3 => k_is); (case l3 => k_is); (case c3 => k_is); (case k3 => k_is); (case a4 => k_is); (case l4 => k_is); (case c4 => k_is); (case k4 => k_is); (case a5 => k_is); (case l5 => k_is); (case c5 => k_is); (case k5 => k_is); (case a6 => k_is); (case l6 => k_is); (case c6 => k_is); (case k6 => k_is); (case a7 => k_is); (case l7 => k_is); (case c7 => k_is); (case k7 => k_is); (case a8 => k_is); (case l8 => k_is); (case c8 => k_is); (case k8 => k_is); (case a9 => k_is); (case l9 => k_is); (case c9 => k_is); (case k9 => k_is); (case a10 => k_is); (case l10 => k_is); (case c10 => k_is); (case k10 => k_is); (case a11 => k_is); (case l11 => k_is); (case c11 => k_is); (case k11 => k_is); (case a12 => k_is); (case l12 => k_is); (case c12 => k_is); (case k12 => k_is); (case a13 => k_is); (case l13 => k_is); (case c13 => k_is); (case k13 => k_is); (case a14 => k_is); (case l14 => k_is); (case c14 => k_is); (case k14 => k_is); (case a15 => k_is); (case l15 => k_is); (case c15 => k_is); (case k15 => k_is); (case a16 => k_is); (case l16 => k_is); (case c16 => k_is); (case k16 => k_is); (case a17 => k_is); (case l17 => k_is); (case c17 => k_is); (case k17 => k_is); (case a18 => k_is); (case l18 => k_is); (case c18 => k_is); (case k18 => k_is); (case a19 => k_is); (case l19 => k_is); (case c19 => k_is); (case k19 => k_is); (case a20 => k_is); (case l20 => k_is); (case c20 => k_is); (case k20 => k_is); (case a21 => k_is); (case l21 => k_is); (case c21 => k_is); (case k21 => k_is); (case a22 => k_is); (case l22 => k_is); (case c22 => k_is); (case k22 => k_is); (case z0 => k_is); (case z1 => k_is); (case z2 => k_is); (case z3 => k_is); (case z4 => k_is); (case z5 => k_is); (case z6 => k_is); (case z7 => k_is); (case z8 => k_is); (case z9 => k_is); (case z10 => k_is); (case z11 => k_is); (case xa => k_is); (case xf => k_is); (case xl => k_is); (case xq => k_is); (case xm => k_is); (case xn => k_is); (case xd => k_is); (case xs => k_is); (case xp => k_is); (case xt => k_is); (case xu => k_is); (case xg => k_is); (case xk => k_is); (case xy => k_is); (case xv => rfl); (case xw => decide +kernel); (case xz => decide +kernel); (case xdv => rfl); (case xa2 => k_is); (case xl2 => k_is); (case xi2 => k_is); (case xe2 => k_is); (case xv2 => k_is); (case xg2 => k_is); (case xh2 => k_is); (case xj2 => k_is); (case xkp2 => k_is); (case xne2 => decide); (case xa3 => k_is); (case xl3 => k_is); (case xi3 => k_is); (case xe3 => k_is); (case xv3 => k_is); (case xg3 => k_is); (case xh3 => k_is); (case xj3 => k_is); (case xkp3 => k_is); (case xne3 => decide); (case xa5 => k_is); (case xl5 => k_is); (case xi5 => k_is); (case xe5 => k_is); (case xv5 => k_is); (case xg5 => k_is); (case xh5 => k_is); (case xj5 => k_is); (case xkp5 => k_is); (case xne5 => decide)
