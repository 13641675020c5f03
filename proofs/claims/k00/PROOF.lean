import PyProof.Rows.All
import Wide.All
import OpenK.AllK
import Wide.FinOn
import HandS.ForMost
import HandS.More
import HandS.Deep
import HandS.TupAny
import HandS.DictComp
import HandS.Property
import HandS.Star
import HandS.Conv
import HandS.Style
import HandS.Wide
import HandS.IsInst
import HandS.Flow
import HandS.Codes
import HandS.NoneIn
import HandS.Exc
import HandS.Lambda
import HandS.TupMul
import PyProof.ListMulRoad
import PyProof.FactsAll.tuple_2
import HandS.Zip
import HandS.Strs
import HandS.Text
import HandS.SortRule
import HandS.Words
import KE.KExcSuper
import HandS.ExcInit
import HandS.ExcIs
import HandS.ExcField
import HandS.ReplaceLit
import PyProof.StrLawsTight
import HandS.ListItems
import KE.GoesNew
import KE.GoesEnum
import KE.KDictZip
import KE.KItemsList
import KE.KExcIs
import PyProof.InstEq
import HandS.ExcBuiltin
import HandS.ExcValue
import HandS.EndBits
import HandS.Defaults
import PySem.Challenge.RW_boxtalks_k00_errors_keep_their_value
set_option Elab.async false
set_option linter.all false
set_option autoImplicit false
set_option maxRecDepth 100000
set_option exponentiation.threshold 10000
-- Mi
namespace Mi

abbrev Tx := List Nat

/-- values: tuples are trees, lists, dicts, instances stand in the store -/
inductive MV where
  | non
  | bl (b : Bool)
  | int (i : Int)
  | str (s : Tx)
  | tup (xs : List MV)
  /-- a list that never changes -/
  | lsv (xs : List MV)
  | ref (a : Nat)
  deriving Inhabited

/-- what stands in the store -/
inductive MO where
  | lst (xs : List MV)
  | dic (lk : Bool) (kvs : List (MV × MV))
  | ins (c : String) (fs : List (String × MV))
  /-- an exception of an own class -/
  | exc (c : String) (v : MV)
  /-- a ValueError that was made -/
  | bex

abbrev Sto := List MO
abbrev Env := List (Option MV)
abbrev Post := MV → Sto → Prop
abbrev Xp := String → MV → Sto → Prop

/-- data: what == and repr see -/
inductive PD where
  | non
  | bl (b : Bool)
  | int (i : Int)
  | str (s : Tx)
  | lst (xs : List PD)
  | tup (xs : List PD)
  | dic (kvs : List (PD × PD))

mutual
def PD.eqv : PD → PD → Bool
  | .non, .non => true
  | .bl a, .bl b => a == b
  | .bl a, .int j => (if a then 1 else 0) == j
  | .int i, .bl b => i == (if b then 1 else 0)
  | .int i, .int j => i == j
  | .str x, .str y => x == y
  | .lst xs, .lst ys => PD.eqvAll xs ys
  | .tup xs, .tup ys => PD.eqvAll xs ys
  | _, _ => false
def PD.eqvAll : List PD → List PD → Bool
  | [], [] => true
  | x :: xs, y :: ys => PD.eqv x y && PD.eqvAll xs ys
  | _, _ => false
end

mutual
/-- texts of true signs, no dict within -/
def PD.fine : PD → Bool
  | .str x => x.all (fun c => decide (c < 1114112))
  | .lst xs => PD.fineAll xs
  | .tup xs => PD.fineAll xs
  | .dic _ => false
  | _ => true
def PD.fineAll : List PD → Bool
  | [] => true
  | x :: xs => PD.fine x && PD.fineAll xs
end
mutual
def PD.nodic : PD → Bool
  | .lst xs => PD.nodicAll xs
  | .tup xs => PD.nodicAll xs
  | .dic _ => false
  | _ => true
def PD.nodicAll : List PD → Bool
  | [] => true
  | x :: xs => PD.nodic x && PD.nodicAll xs
end
mutual
/-- ints are short -/
def PD.shw : PD → Bool
  | .int i => decide (i.natAbs < 2 ^ 1000)
  | .lst xs => PD.shwAll xs
  | .tup xs => PD.shwAll xs
  | .dic kvs => PD.shwKv kvs
  | _ => true
def PD.shwAll : List PD → Bool
  | [] => true
  | x :: xs => PD.shw x && PD.shwAll xs
def PD.shwKv : List (PD × PD) → Bool
  | [] => true
  | (k, v) :: xs => PD.shw k && PD.shw v && PD.shwKv xs
end

def PD.scal : PD → Bool
  | .lst _ => false
  | .tup _ => false
  | .dic _ => false
  | _ => true
/-- a dict of scalars -/
def PD.flat : PD → Bool
  | .dic kvs => kvs.all fun kv => kv.1.scal && kv.2.scal
  | _ => false
/-- the data of a value: n bounds the depth -/
def toPD : Nat → Sto → MV → Option PD
  | 0, _, _ => none
  | _ + 1, _, .non => some .non
  | _ + 1, _, .bl b => some (.bl b)
  | _ + 1, _, .int i => some (.int i)
  | _ + 1, _, .str s => some (.str s)
  | n + 1, st, .tup xs => (xs.mapM (toPD n st)).map .tup
  | n + 1, st, .lsv xs => (xs.mapM (toPD n st)).map .lst
  | n + 1, st, .ref a => match st[a]? with
    | some (.lst xs) => (xs.mapM (toPD n st)).map .lst
    | some (.dic _ kvs) => (kvs.mapM fun (k, v) => do pure (← toPD n st k, ← toPD n st v)).map .dic
    | _ => none

inductive BOp where | add | sub | mul | fdiv | mod | pow
  deriving DecidableEq
inductive COp where | eq | ne | lt | le | gt | ge | isN | notN | inn | nin
  deriving DecidableEq
inductive Blt where | len | abs | int | str | list | tuple | max | min | sum | all | any | sorted | repr | dict | set | range
  deriving DecidableEq
inductive BMt where | append | extend | pop | index | split | join | get | upper
  deriving DecidableEq
inductive ITy where | int | bool | str | tuple | list | dict | own (c : String)
  deriving DecidableEq

/-- the target of a for, of a comprehension, of an assignment -/
inductive ITg where
  | name (i : Nat)
  | tup (ns : List Nat)
  /-- a pair, one of its halves a tuple perhaps -/
  | pr (l r : Nat ⊕ List Nat)

mutual
inductive IE where
  | var (i : Nat)
  | con (v : MV)
  | tup (es : IA)
  | lst (es : IA)
  | dic (ps : IP)
  | bin (o : BOp) (a b : IE)
  | neg (a : IE)
  | cmp (o : COp) (a b : IE)
  | chn (o1 o2 : COp) (a b c : IE)
  | and (a b : IE)
  | or (a b : IE)
  | not (a : IE)
  | ite (c a b : IE)
  | sub (a i : IE)
  | sli (a : IE) (lo hi : IO)
  | rev (a : IE)
  | fld (a : IE) (f : String)
  | call (f : String) (es : IA)
  | new (c : String) (es : IA)
  | mth (a : IE) (m : String) (es : IA)
  | bmt (a : IE) (m : BMt) (es : IA)
  | blt (b : Blt) (es : IA)
  | isi (a : IE) (t : ITy)
  | lrg (a : IE)
  | lc (elt : IE) (tg : ITg) (it : II) (cond : IO) (own : List Nat)
  | dc (k v : IE) (tg : ITg) (it : II) (own : List Nat)
  /-- f(lambda: a): the error that a raises, what it gives -/
  | heard (f : String) (a : IE)
  /-- isinstance(a, c), a a caught exception -/
  | isx (a : IE) (c : String)
  /-- list(a.items()) -/
  | lit (a : IE)
  /-- a in b, a not in b: b an own object -/
  | ino (neg : Bool) (a b : IE)
  /-- len(set(a)), a a list of texts -/
  | lset (a : IE)
  /-- list(zip(a, b)), both lists -/
  | lzip (a b : IE)
  /-- a == b, a != b: a an own object -/
  | oeq (neg : Bool) (a b : IE)
  /-- len(a), a an own object -/
  | olen (a : IE)
  /-- isinstance(a, c), c an own class -/
  | iso (a : IE) (c : String)
  /-- C(a), C an own class of exceptions: made, not raised -/
  | mkx (c : String) (a : IE)
  /-- ValueError(a) -/
  | mkb (a : IE)
  /-- isinstance(a, ValueError), a an exception -/
  | isv (a : IE)
  /-- [a o w, r..], w a written text: behind the first item a token is out -/
  | lstT (o : BOp) (a : IE) (w : Tx) (r : IA)
inductive IA where
  | nil
  | cons (e : IE) (r : IA)
  | star (e : IE) (r : IA)
  /-- a.replace(c, z), c one sign: behind an item that gives out a token -/
  | rep (a : IE) (c : Nat) (z : Tx) (r : IA)
inductive IP where
  | nil
  | cons (k v : IE) (r : IP)
inductive IO where
  | non
  | som (e : IE)
inductive II where
  | ev (e : IE)
  | rng (a : IE)
  | rng2 (a b : IE)
  | enu (e : IE)
  | zip (a b : IE)
  | keys (e : IE)
  | items (e : IE)
  | vals (e : IE)
end

inductive IS where
  | expr (e : IE)
  | asg (tg : ITg) (e : IE)
  | par (ns : List Nat) (es : IA)
  | setsub (o i e : IE)
  /-- o[i], p[j] = e, a pair -/
  | set2 (o i p j e : IE)
  | setfld (o : IE) (f : String) (e : IE)
  | iff (c : IE) (a b : List IS)
  | whl (c : IE) (b : List IS)
  | for_ (tg : ITg) (it : II) (b : List IS)
  | ret (e : IE)
  | retN
  | pass
  | brk
  | cont
  | raise (c : String) (e : IE)
  | bad

structure IDef where
  np : Nat
  ns : Nat
  body : List IS

structure Prog where
  df : String → Option IDef
  /-- class, name: the qualified name of the method -/
  mt : String → String → Option String
  /-- an attribute: of the object itself, or a property -/
  pr : String → String → Option (Option String)
  rp : PD → Tx
  /-- whether an exception of the first class is one of the second -/
  xs : String → String → Bool

/-! ### values -/
def big : Nat := 16777216

def truth (st : Sto) : MV → Option Bool
  | .non => some false
  | .bl b => some b
  | .int i => some (i != 0)
  | .str s => if s.length ≤ big then some (!s.isEmpty) else none
  | .tup xs => some (!xs.isEmpty)
  | .lsv xs => some (!xs.isEmpty)
  | .ref a => match st[a]? with
    | some (.lst xs) => some (!xs.isEmpty)
    | some (.dic false kvs) => some (!kvs.isEmpty)
    | _ => none

/-- the items of a list, a tuple -/
def seqOf (st : Sto) : MV → Option (List MV)
  | .tup xs => some xs
  | .lsv xs => some xs
  | .ref a => match st[a]? with
    | some (.lst xs) => some xs
    | _ => none
  | _ => none
def lstOf (st : Sto) : MV → Option (List MV)
  | .lsv xs => some xs
  | .ref a => match st[a]? with
    | some (.lst xs) => some xs
    | _ => none
  | _ => none

/-- the place of an index -/
def ixOf (n : Nat) (i : Int) : Option Nat :=
  if 0 ≤ i then (if i < n then some i.toNat else none) else if -(n : Int) ≤ i then some (i + n).toNat else none

def isKey : MV → Bool
  | .int _ => true
  | .str _ => true
  | _ => false
def keyEq : MV → MV → Bool
  | .int i, .int j => i == j
  | .str x, .str y => x == y
  | _, _ => false
def kLook (k : MV) : List (MV × MV) → Option MV
  | [] => none
  | (k', v) :: r => if keyEq k' k then some v else kLook k r
def kPut (k v : MV) (kvs : List (MV × MV)) : List (MV × MV) :=
  if kvs.any fun p => keyEq p.1 k then kvs.map fun p => if keyEq p.1 k then (p.1, v) else p else kvs ++ [(k, v)]

/-- the ends of a slice -/
def sIx (n : Nat) (d : Nat) : Option Int → Nat
  | none => d
  | some i => if i < 0 then (i + n).toNat else min i.toNat n
def cut {α : Type} (xs : List α) (lo hi : Option Int) : List α :=
  (xs.drop (sIx xs.length 0 lo)).take (sIx xs.length xs.length hi - sIx xs.length 0 lo)

def natTx (n : Nat) : Tx := (Nat.toDigits 10 n).map Char.toNat
def intTx : Int → Tx
  | .ofNat n => natTx n
  | .negSucc n => 45 :: natTx (n + 1)

/-- a text parted -/
def splitOn (c : Nat) : Tx → List Tx
  | [] => [[]]
  | x :: r => if x = c then [] :: splitOn c r else match splitOn c r with
    | [] => [[x]]
    | w :: ws => (x :: w) :: ws
def joinBy (s : Tx) : List Tx → Tx
  | [] => []
  | [w] => w
  | w :: ws => w ++ s ++ joinBy s ws

/-- unlike ones, as they are met -/
def uniq (ts : List Tx) : List Tx := ts.foldl (fun σ x => if σ.any (· == x) then σ else σ ++ [x]) []

def txtOf : MV → Option Tx
  | .str s => some s
  | _ => none
def intOf : MV → Option Int
  | .int i => some i
  | _ => none
def blOf : MV → Option Bool
  | .bl i => some i
  | _ => none

def digitVal (s : Tx) : Option Int :=
  if 1 ≤ s.length ∧ s.length ≤ 9 ∧ s.all (fun c => 48 ≤ c && c ≤ 57) then some (List.foldl (fun (a : Int) (c : Nat) => a * 10 + ((c : Int) - 48)) 0 s) else none

def bound : Int := 2 ^ 6000

/-! ### operations: what must hold of Q -/
def opBin (o : BOp) (x y : MV) (st : Sto) (Q : Post) : Prop :=
  match o, x, y with
  | .add, .int i, .int j => Q (.int (i + j)) st
  | .add, .str a, .str b => a.length + b.length ≤ big ∧ Q (.str (a ++ b)) st
  | .add, .tup a, .tup b => a.length + b.length ≤ big ∧ Q (.tup (a ++ b)) st
  | .add, .ref a, .ref b => ∃ xs ys, st[a]? = some (.lst xs) ∧ st[b]? = some (.lst ys) ∧ xs.length + ys.length ≤ big ∧ Q (.ref st.length) (st ++ [.lst (xs ++ ys)])
  | .sub, .int i, .int j => Q (.int (i - j)) st
  | .mul, .int i, .int j => (i.natAbs < 2 ^ 64 ∨ j.natAbs < 2 ^ 64 ∨ (i.natAbs < 2 ^ 5000 ∧ j.natAbs < 2 ^ 5000)) ∧ Q (.int (i * j)) st
  | .mul, .ref a, .int k => ∃ xs, st[a]? = some (.lst xs) ∧ 0 ≤ k ∧ k < 2 ^ 63 ∧ xs.length * k.toNat ≤ big ∧ Q (.ref st.length) (st ++ [.lst (List.replicate k.toNat xs).flatten])
  | .mul, .tup a, .int k => 1 ≤ k ∧ k ≤ 1000 ∧ a ≠ [] ∧ a.length ≤ 1000 ∧ Q (.tup (List.replicate k.toNat a).flatten) st
  | .fdiv, .int i, .int j => 0 < j ∧ j < 1073741824 ∧ Q (.int (i / j)) st
  | .mod, .int i, .int j => 0 < j ∧ Q (.int (i % j)) st
  | .pow, .int i, .int j => 0 ≤ j ∧ j ≤ 1000 ∧ i.natAbs < 2 ^ 5000 ∧ Q (.int (i ^ j.toNat)) st
  | _, _, _ => False

def scalar : MV → Bool
  | .non => true
  | .bl _ => true
  | .int _ => true
  | .str _ => true
  | _ => false

/-- == needs no look at signs -/
def scal2 : MV → MV → Bool
  | .bl _, .int _ => false
  | .int _, .bl _ => false
  | x, y => scalar x && scalar y
def inOk (x : MV) (ys : List MV) (d : PD) (ds : List PD) : Prop := (scalar x = true ∧ ys.all scalar = true) ∨ (d.fine = true ∧ PD.fineAll ds = true)

/-- x in y -/
def opIn (x y : MV) (st : Sto) (Q : Bool → Sto → Prop) : Prop :=
  match y with
  | .str t => match x with
    | .str [c] => Q (t.contains c) st
    | _ => False
  | .lsv ys => ∃ d ds, toPD 30 st x = some d ∧ ys.mapM (toPD 30 st) = some ds ∧ inOk x ys d ds ∧ Q (ds.any fun z => PD.eqv z d) st
  | .tup ys => ∃ d ds, toPD 30 st x = some d ∧ ys.mapM (toPD 30 st) = some ds ∧ inOk x ys d ds ∧ Q (ds.any fun z => PD.eqv z d) st
  | .ref a => match st[a]? with
    | some (.lst ys) => ∃ d ds, toPD 30 st x = some d ∧ ys.mapM (toPD 30 st) = some ds ∧ inOk x ys d ds ∧ Q (ds.any fun z => PD.eqv z d) st
    | some (.dic _ kvs) => isKey x = true ∧ Q (kLook x kvs).isSome st
    | _ => False
  | _ => False

/-- dicts compared: both void, or not of one length -/
def dEq (x y : MV) (st : Sto) (Q : Bool → Prop) : Prop := ∃ a b ks ls, x = .ref a ∧ y = .ref b ∧ st[a]? = some (.dic false ks) ∧ st[b]? = some (.dic false ls) ∧ (ks.length = ls.length → ks = []) ∧ Q (ks.length == ls.length)

def opCmp (o : COp) (x y : MV) (st : Sto) (Q : Bool → Sto → Prop) : Prop :=
  match o with
  | .eq => (∃ d e, toPD 30 st x = some d ∧ toPD 30 st y = some e ∧ (scal2 x y = true ∨ (d.fine = true ∧ e.fine = true)) ∧ Q (PD.eqv d e) st) ∨ dEq x y st fun b => Q b st
  | .ne => (∃ d e, toPD 30 st x = some d ∧ toPD 30 st y = some e ∧ (scal2 x y = true ∨ (d.fine = true ∧ e.fine = true)) ∧ Q (!PD.eqv d e) st) ∨ dEq x y st fun b => Q (!b) st
  | .lt => ∃ i j, x = .int i ∧ y = .int j ∧ Q (decide (i < j)) st
  | .le => ∃ i j, x = .int i ∧ y = .int j ∧ Q (decide (i ≤ j)) st
  | .gt => ∃ i j, x = .int i ∧ y = .int j ∧ Q (decide (j < i)) st
  | .ge => ∃ i j, x = .int i ∧ y = .int j ∧ Q (decide (j ≤ i)) st
  | .isN => y = .non ∧ Q (match x with | .non => true | _ => false) st
  | .notN => y = .non ∧ Q (match x with | .non => false | _ => true) st
  | .inn => opIn x y st Q
  | .nin => opIn x y st fun b st' => Q (!b) st'

/-- x[i] -/
def opSub (x i : MV) (st : Sto) (Q : Post) : Prop :=
  match x with
  | .tup xs => ∃ n v, i = .int n ∧ (ixOf xs.length n).bind (xs[·]?) = some v ∧ Q v st
  | .lsv xs => ∃ n v, i = .int n ∧ (ixOf xs.length n).bind (xs[·]?) = some v ∧ Q v st
  | .str s => ∃ n c, i = .int n ∧ s.length ≤ big ∧ (ixOf s.length n).bind (s[·]?) = some c ∧ Q (.str [c]) st
  | .ref a => match st[a]? with
    | some (.lst xs) => ∃ n v, i = .int n ∧ (ixOf xs.length n).bind (xs[·]?) = some v ∧ Q v st
    | some (.dic _ kvs) => ∃ v, isKey i = true ∧ kLook i kvs = some v ∧ Q v st
    | _ => False
  | _ => False

/-- x[lo:hi] -/
def opSli (x : MV) (lo hi : Option Int) (st : Sto) (Q : Post) : Prop :=
  match x with
  | .tup xs => Q (.tup (cut xs lo hi)) st
  | .str s => s.length ≤ big ∧ Q (.str (cut s lo hi)) st
  | .ref a => match st[a]? with
    | some (.lst xs) => Q (.ref st.length) (st ++ [.lst (cut xs lo hi)])
    | _ => False
  | _ => False

def keysOf (kvs : List (MV × MV)) : List MV := kvs.map (·.1)

/-- a dict of pairs -/
def dictOf : List MV → List (MV × MV) → Option (List (MV × MV))
  | [], acc => some acc
  | .tup [k, v] :: r, acc => if isKey k then dictOf r (kPut k v acc) else none
  | _ :: _, _ => none

/-- pairs of ints, their sequence -/
def prV (p : Int × Int) : MV := .tup [.int p.1, .int p.2]
def prLe (a b : Int × Int) : Prop := a.1 < b.1 ∨ (a.1 = b.1 ∧ a.2 ≤ b.2)
def opBlt (rp : PD → Tx) (b : Blt) (vs : List MV) (st : Sto) (Q : Post) : Prop :=
  match b, vs with
  | .len, [.str s] => s.length ≤ big ∧ Q (.int s.length) st
  | .len, [.tup xs] => Q (.int xs.length) st
  | .len, [.lsv xs] => Q (.int xs.length) st
  | .len, [.ref a] => match st[a]? with
    | some (.lst xs) => Q (.int xs.length) st
    | some (.dic false kvs) => Q (.int kvs.length) st
    | _ => False
  | .abs, [.int i] => Q (.int (if i < 0 then -i else i)) st
  | .int, [.int i] => Q (.int i) st
  | .int, [.bl k] => Q (.int (if k then 1 else 0)) st
  | .int, [.str s] => ∃ i, digitVal s = some i ∧ Q (.int i) st
  | .str, [.int i] => i.natAbs < 2 ^ 1000 ∧ Q (.str (intTx i)) st
  | .list, [.tup xs] => Q (.ref st.length) (st ++ [.lst xs])
  | .list, [.lsv xs] => Q (.ref st.length) (st ++ [.lst xs])
  | .list, [.ref a] => match st[a]? with
    | some (.lst xs) => Q (.ref st.length) (st ++ [.lst xs])
    | some (.dic _ kvs) => Q (.ref st.length) (st ++ [.lst (keysOf kvs)])
    | _ => False
  | .tuple, [.tup xs] => Q (.tup xs) st
  | .tuple, [.lsv xs] => Q (.tup xs) st
  | .tuple, [.ref a] => match st[a]? with
    | some (.lst xs) => Q (.tup xs) st
    | some (.dic _ kvs) => Q (.tup (keysOf kvs)) st
    | _ => False
  | .max, [.int i, .int j] => Q (.int (if j > i then j else i)) st
  | .min, [.int i, .int j] => Q (.int (if j < i then j else i)) st
  | .max, [.ref a] => ∃ ns : List Int, ∃ m, st[a]? = some (.lst (ns.map .int)) ∧ m ∈ ns ∧ (∀ y ∈ ns, y ≤ m) ∧ Q (.int m) st
  | .min, [.ref a] => ∃ ns : List Int, ∃ m, st[a]? = some (.lst (ns.map .int)) ∧ m ∈ ns ∧ (∀ y ∈ ns, m ≤ y) ∧ Q (.int m) st
  | .sum, [.ref a] => ∃ ns : List Int, st[a]? = some (.lst (ns.map .int)) ∧ Q (.int ns.sum) st
  | .all, [.ref a] => ∃ bs : List Bool, st[a]? = some (.lst (bs.map .bl)) ∧ Q (.bl (bs.all id)) st
  | .any, [.ref a] => ∃ bs : List Bool, st[a]? = some (.lst (bs.map .bl)) ∧ Q (.bl (bs.any id)) st
  | .sorted, [.ref a] => ∃ ps : List (Int × Int), st[a]? = some (.lst (ps.map prV)) ∧ ∀ qs, List.Perm qs ps → List.Pairwise prLe qs → Q (.ref st.length) (st ++ [.lst (qs.map prV)])
  | .repr, [x] => ∃ d, toPD 30 st x = some d ∧ d.shw = true ∧ (d.nodic = true ∨ d.flat = true) ∧ (rp d).length ≤ big ∧ Q (.str (rp d)) st
  | .dict, [.ref a] => match st[a]? with
    | some (.lst xs) => ∃ kvs, dictOf xs [] = some kvs ∧ Q (.ref st.length) (st ++ [.dic false kvs])
    | some (.dic _ kvs) => Q (.ref st.length) (st ++ [.dic false kvs])
    | _ => False
  | _, _ => False

/-- a value with methods of its own type -/
def btOk (m : BMt) (st : Sto) : MV → Bool
  | .str _ => match m with | .split => true | .join => true | .upper => true | _ => false
  | .ref a => match st[a]? with
    | some (.lst _) => match m with | .append => true | .extend => true | .pop => true | .index => true | _ => false
    | some (.dic false _) => match m with | .get => true | _ => false
    | _ => false
  | _ => false

/-- a method of a list, a dict, a text -/
def opBmt (m : BMt) (x : MV) (vs : List MV) (st : Sto) (Q : Post) : Prop :=
  match m with
  | .split => ∃ s c, x = .str s ∧ vs = [.str [c]] ∧ s.length + 2 ≤ big ∧ Q (.ref st.length) (st ++ [.lst ((splitOn c s).map .str)])
  | .join => ∃ s v, ∃ ws : List Tx, x = .str s ∧ vs = [v] ∧ seqOf st v = some (ws.map .str) ∧ (ws.map (·.length)).sum + ws.length * s.length ≤ big ∧ Q (.str (joinBy s ws)) st
  | .append => ∃ a xs v, x = .ref a ∧ st[a]? = some (.lst xs) ∧ vs = [v] ∧ xs.length < big ∧ Q .non (st.set a (.lst (xs ++ [v])))
  | .extend => ∃ a xs b ys, x = .ref a ∧ st[a]? = some (.lst xs) ∧ vs = [.ref b] ∧ st[b]? = some (.lst ys) ∧ xs.length + ys.length ≤ big ∧ Q .non (st.set a (.lst (xs ++ ys)))
  | .pop => (∃ a xs i k v, x = .ref a ∧ st[a]? = some (.lst xs) ∧ vs = [.int i] ∧ xs.length < big ∧ ixOf xs.length i = some k ∧ xs[k]? = some v ∧ Q v (st.set a (.lst (xs.eraseIdx k)))) ∨
      (∃ a xs v, x = .ref a ∧ st[a]? = some (.lst xs) ∧ vs = [] ∧ xs[xs.length - 1]? = some v ∧ Q v (st.set a (.lst xs.dropLast)))
  | .index => ∃ a xs v d ds j, x = .ref a ∧ st[a]? = some (.lst xs) ∧ vs = [v] ∧ toPD 30 st v = some d ∧ xs.mapM (toPD 30 st) = some ds ∧ d.fine = true ∧ PD.fineAll ds = true ∧ ds.findIdx? (fun z => PD.eqv z d) = some j ∧ Q (.int (j : Nat)) st
  | .get => ∃ a kvs k v, x = .ref a ∧ st[a]? = some (.dic false kvs) ∧ vs = [k, v] ∧ isKey k = true ∧ Q ((kLook k kvs).getD v) st
  | .upper => ∃ s, x = .str s ∧ vs = [] ∧ s.length ≤ 1000 ∧ s.all (· < 128) = true ∧ Q (.str (s.map fun c => if 97 ≤ c ∧ c ≤ 122 then c - 32 else c)) st

def opIsi (t : ITy) (x : MV) (st : Sto) (Q : Bool → Sto → Prop) : Prop :=
  match x with
  | .non => Q false st
  | .bl _ => Q (match t with | .bool => true | .int => true | _ => false) st
  | .int _ => Q (match t with | .int => true | _ => false) st
  | .str _ => Q (match t with | .str => true | _ => false) st
  | .tup _ => Q (match t with | .tuple => true | _ => false) st
  | .lsv _ => Q (match t with | .list => true | _ => false) st
  | .ref a => match st[a]? with
    | some (.lst _) => Q (match t with | .list => true | _ => false) st
    | some (.dic _ _) => Q (match t with | .dict => true | _ => false) st
    | _ => False

/-- of which own class a value is, if of one -/
def tyO (st : Sto) : MV → Option (Option String)
  | .ref a => match st[a]? with
    | some (.lst _) => some none
    | some (.dic _ _) => some none
    | some (.ins c _) => some (some c)
    | _ => none
  | _ => some none
/-- isinstance(x, c), c an own class -/
def opIso (c : String) (x : MV) (st : Sto) (Q : Bool → Sto → Prop) : Prop := ∃ o, tyO st x = some o ∧ Q (o == some c) st
/-- no exception of an own class -/
def noXc (st : Sto) (x : MV) : Prop := x = .non ∨ ∃ n, x = .ref n ∧ st[n]? = some .bex
def anyXc (st : Sto) (x : MV) : Prop := ∃ n, x = .ref n ∧ ((∃ c v, st[n]? = some (.exc c v)) ∨ st[n]? = some .bex)
/-- what an own object may be compared with -/
def eqOk (st : Sto) (c : String) (x : MV) : Prop := tyO st x = some none ∨ tyO st x = some (some c)

def putFld (f : String) (v : MV) : List (String × MV) → List (String × MV)
  | [] => [(f, v)]
  | (g, w) :: r => if g = f then (g, v) :: r else (g, w) :: putFld f v r

/-- o[i] = v -/
def opSet (x i v : MV) (st : Sto) (Q : Sto → Prop) : Prop :=
  match x with
  | .ref a => match st[a]? with
    | some (.lst xs) => ∃ n k, i = .int n ∧ ixOf xs.length n = some k ∧ Q (st.set a (.lst (xs.set k v)))
    | some (.dic false kvs) => isKey i = true ∧ kvs.length < big ∧ Q (st.set a (.dic false (kPut i v kvs)))
    | _ => False
  | _ => False

/-! ### loops -/
/-- what is walked: the items; what must stand still -/
structure It where
  xs : List MV
  ok : Sto → Prop

def enumFrom : Nat → List MV → List MV
  | _, [] => []
  | n, x :: r => .tup [.int (n : Int), x] :: enumFrom (n + 1) r

/-- over items, a state of type α carried -/
def loop {α : Type} (ok : Sto → Prop) (step : MV → α → Sto → (α → Sto → Prop) → Prop) : List MV → α → Sto → (α → Sto → Prop) → Prop
  | [], a, st, Q => ok st ∧ Q a st
  | x :: r, a, st, Q => ok st ∧ step x a st fun a' st' => loop ok step r a' st' Q

def set1 (t : Nat ⊕ List Nat) (v : MV) (σ : Env) (Q : Env → Prop) : Prop :=
  match t with
  | .inl i => Q (σ.set i (some v))
  | .inr ns => ∃ vs, v = .tup vs ∧ vs.length = ns.length ∧ Q ((ns.zip vs).foldl (fun s p => s.set p.1 (some p.2)) σ)
def setTg (tg : ITg) (v : MV) (σ : Env) (Q : Env → Prop) : Prop :=
  match tg with
  | .name i => Q (σ.set i (some v))
  | .tup ns => ∃ vs, v = .tup vs ∧ vs.length = ns.length ∧ Q ((ns.zip vs).foldl (fun s p => s.set p.1 (some p.2)) σ)
  | .pr l r => ∃ x y, v = .tup [x, y] ∧ set1 l x σ fun σ1 => set1 r y σ1 Q

/-- .. where the value may be a list -/
def setTgS (tg : ITg) (v : MV) (σ : Env) (st : Sto) (Q : Env → Prop) : Prop :=
  match tg with
  | .name i => Q (σ.set i (some v))
  | .tup ns => ∃ vs, seqOf st v = some vs ∧ vs.length = ns.length ∧ Q ((ns.zip vs).foldl (fun s p => s.set p.1 (some p.2)) σ)
  | .pr l r => ∃ x y, v = .tup [x, y] ∧ set1 l x σ fun σ1 => set1 r y σ1 Q

def wipeE (σ : Env) : List Nat → Env
  | [] => σ
  | v :: vs => (wipeE σ vs).set v none

structure Ends where
  nx : Env → Sto → Prop
  rt : MV → Sto → Prop
  bk : Env → Sto → Prop
  ct : Env → Sto → Prop
  ex : String → MV → Env → Sto → Prop

/-- a while: n turns at most -/
def whileN (test : Env → Sto → (Bool → Sto → Prop) → Prop) (body : Ends → Env → Sto → Prop) (D : Ends) : Nat → Env → Sto → Prop
  | 0, _, _ => False
  | n + 1, σ, st => test σ st fun b st' => if b then body { D with nx := whileN test body D n, ct := whileN test body D n, bk := D.nx } σ st' else D.nx σ st'

abbrev Phi := String → List MV → Sto → Post → Xp → Prop

section
variable (P : Prog) (F : Phi)

/-- a dict walked: locked while the loop runs -/
def lockAt (v : MV) (st : Sto) (K : Nat → List (MV × MV) → Sto → Prop) : Prop := ∃ a kvs, v = .ref a ∧ st[a]? = some (.dic false kvs) ∧ K a kvs (st.set a (.dic true kvs))
def unlock (a : Nat) (kvs : List (MV × MV)) (st : Sto) (Q : Sto → Prop) : Prop := st[a]? = some (.dic true kvs) ∧ Q (st.set a (.dic false kvs))

/-- the items of a value; R: the rest -/
def itemsOf (v : MV) (st : Sto) (R : It → Sto → Prop) : Prop :=
  match v with
  | .tup xs => R ⟨xs, fun _ => True⟩ st
  | .lsv xs => R ⟨xs, fun _ => True⟩ st
  | .str s => R ⟨s.map fun c => .str [c], fun _ => True⟩ st
  | .ref a => match st[a]? with
    | some (.lst xs) => R ⟨xs, fun st' => st'[a]? = some (.lst xs)⟩ st
    | _ => False
  | _ => False

/-- x[y], a dict's, a list's, or the object's own -/
def opGet (x y : MV) (st : Sto) (Q : Post) (X : Xp) : Prop := opSub x y st Q ∨ ∃ n c fs q, x = .ref n ∧ st[n]? = some (.ins c fs) ∧ P.mt c "__getitem__" = some q ∧ F q [x, y] st Q X
/-- x.f -/
def opFld (f : String) (x : MV) (st : Sto) (Q : Post) (X : Xp) : Prop := (∃ n c fs, x = .ref n ∧ st[n]? = some (.ins c fs) ∧
      ((P.pr c f = some none ∧ ∃ v, fs.lookup f = some v ∧ Q v st) ∨ ∃ q, P.pr c f = some (some q) ∧ F q [x] st Q fun _ _ _ => False)) ∨
    (f = "value" ∧ ∃ n c v, x = .ref n ∧ st[n]? = some (.exc c v) ∧ Q v st)
/-- not a walk through a dict -/
def Plain : II → Bool
  | .keys _ => false
  | .items _ => false
  | .vals _ => false
  | _ => true
mutual
def wpE : IE → Env → Sto → Post → Xp → Prop
  | .var i, σ, st, Q, _ => ∃ v, σ[i]? = some (some v) ∧ Q v st
  | .con v, _, st, Q, _ => Q v st
  | .tup es, σ, st, Q, X => wpA es σ st (fun vs st' => vs.length ≤ big ∧ Q (.tup vs) st') X
  | .lst es, σ, st, Q, X => wpA es σ st (fun vs st' => vs.length ≤ big ∧ Q (.ref st'.length) (st' ++ [.lst vs])) X
  | .dic ps, σ, st, Q, X => wpP ps σ st (fun kvs st' => kvs.all (fun kv => isKey kv.1) = true ∧ kvs.length ≤ 15 ∧ Q (.ref st'.length) (st' ++ [.dic false (kvs.foldl (fun acc kv => kPut kv.1 kv.2 acc) [])])) X
  | .bin o a b, σ, st, Q, X => wpE a σ st (fun x st1 => wpE b σ st1 (fun y st2 => opBin o x y st2 Q) X) X
  | .neg a, σ, st, Q, X => wpE a σ st (fun x st1 => ∃ i, x = .int i ∧ Q (.int (-i)) st1) X
  | .cmp o a b, σ, st, Q, X => wpE a σ st (fun x st1 => wpE b σ st1 (fun y st2 => opCmp o x y st2 fun t st3 => Q (.bl t) st3) X) X
  | .chn o1 o2 a b c, σ, st, Q, X => wpE a σ st (fun x st1 => wpE b σ st1 (fun y st2 => opCmp o1 x y st2 fun t st3 =>
      if t then wpE c σ st3 (fun z st4 => opCmp o2 y z st4 fun u st5 => Q (.bl u) st5) X else Q (.bl false) st3) X) X
  | .and a b, σ, st, Q, X => wpE a σ st (fun x st1 => ∃ t, truth st1 x = some t ∧ if t then wpE b σ st1 Q X else Q x st1) X
  | .or a b, σ, st, Q, X => wpE a σ st (fun x st1 => ∃ t, truth st1 x = some t ∧ if t then Q x st1 else wpE b σ st1 Q X) X
  | .not a, σ, st, Q, X => wpE a σ st (fun x st1 => ∃ t, truth st1 x = some t ∧ Q (.bl (!t)) st1) X
  | .ite c a b, σ, st, Q, X => wpE c σ st (fun x st1 => ∃ t, truth st1 x = some t ∧ if t then wpE a σ st1 Q X else wpE b σ st1 Q X) X
  | .sub a i, σ, st, Q, X => wpE a σ st (fun x st1 => wpE i σ st1 (fun y st2 => opGet P F x y st2 Q X) X) X
  | .sli a lo hi, σ, st, Q, X => wpE a σ st (fun x st1 => wpO lo σ st1 (fun l st2 => wpO hi σ st2 (fun h st3 => opSli x l h st3 Q) X) X) X
  | .rev a, σ, st, Q, X => wpE a σ st (fun x st1 => (∃ a xs, x = .ref a ∧ st1[a]? = some (.lst xs) ∧ Q (.ref st1.length) (st1 ++ [.lst xs.reverse])) ∨ (∃ xs, x = .tup xs ∧ Q (.tup xs.reverse) st1) ∨ ∃ s, x = .str s ∧ s.length ≤ big ∧ Q (.str s.reverse) st1) X
  | .fld a f, σ, st, Q, X => wpE a σ st (fun x st1 => opFld P F f x st1 Q X) X
  | .call f es, σ, st, Q, X => wpA es σ st (fun vs st1 => F f vs st1 Q X) X
  | .new c es, σ, st, Q, X => wpA es σ st (fun vs st1 => ∃ q, P.mt c "__init__" = some q ∧ F q (.ref st1.length :: vs) (st1 ++ [.ins c []]) (fun v st2 => v = .non ∧ Q (.ref st1.length) st2) X) X
  | .mth a m es, σ, st, Q, X => wpE a σ st (fun x st1 => ∃ n c fs q, x = .ref n ∧ st1[n]? = some (.ins c fs) ∧ fs.lookup m = none ∧ P.mt c m = some q ∧ wpA es σ st1 (fun vs st2 => F q (x :: vs) st2 Q X) X) X
  | .bmt a m es, σ, st, Q, X => wpE a σ st (fun x st1 => btOk m st1 x = true ∧ wpA es σ st1 (fun vs st2 => opBmt m x vs st2 Q) X) X
  | .blt b es, σ, st, Q, X => wpA es σ st (fun vs st1 => opBlt P.rp b vs st1 Q) X
  | .isi a t, σ, st, Q, X => wpE a σ st (fun x st1 => opIsi t x st1 fun b st2 => Q (.bl b) st2) X
  | .lrg a, σ, st, Q, X => wpE a σ st (fun x st1 => ∃ n : Int, x = .int n ∧ -1000000 ≤ n ∧ n ≤ 1000000 ∧ Q (.ref st1.length) (st1 ++ [.lst ((List.range n.toNat).map fun (i : Nat) => .int (i : Int))])) X
  | .lc elt tg it cond own, σ, st, Q, X => wpI it σ st (fun J st1 fin => J.xs.length < big ∧
      loop J.ok (fun x acc st2 k => setTg tg x (wipeE σ own) fun σ2 => wpO' cond σ2 st2 (fun t st3 => if t then wpE elt σ2 st3 (fun y st4 => k (acc ++ [y]) st4) (fun _ _ _ => False) else k acc st3)) J.xs [] st1
        fun acc st5 => fin st5 fun st6 => Q (.ref st6.length) (st6 ++ [.lst acc])) X
  | .dc ke ve tg it own, σ, st, Q, X => wpI it σ st (fun J st1 fin => J.xs.length < big ∧
      loop J.ok (fun x acc st2 k => setTg tg x (wipeE σ own) fun σ2 => wpE ke σ2 st2 (fun kv st3 => isKey kv = true ∧ wpE ve σ2 st3 (fun y st4 => k (kPut kv y acc) st4) (fun _ _ _ => False)) (fun _ _ _ => False)) J.xs [] st1
        fun acc st5 => fin st5 fun st6 => Q (.ref st6.length) (st6 ++ [.dic false acc])) X
  | .heard _ a, σ, st, Q, _ => wpE a σ st (fun v st1 => Q (.tup [.non, v]) st1) (fun c v st1 => Q (.tup [.ref st1.length, .non]) (st1 ++ [.exc c v]))
  | .isx a c, σ, st, Q, X => wpE a σ st (fun x st1 => (noXc st1 x ∧ Q (.bl false) st1) ∨ ∃ n c' v, x = .ref n ∧ st1[n]? = some (.exc c' v) ∧ Q (.bl (P.xs c' c)) st1) X
  | .lstT o a w r, σ, st, Q, X => wpE a σ st (fun x st1 => opBin o x (.str w) st1 (fun v st2 => wpA r σ st2 (fun vs st3 => (v :: vs).length ≤ big ∧ Q (.ref st3.length) (st3 ++ [.lst (v :: vs)])) X)) X
  | .lzip a b, σ, st, Q, X => wpE a σ st (fun x st1 => wpE b σ st1 (fun y st2 => ∃ xs ys, lstOf st2 x = some xs ∧ lstOf st2 y = some ys ∧ Q (.ref st2.length) (st2 ++ [.lst ((xs.zip ys).map fun z => .tup [z.1, z.2])])) X) X
  | .oeq neg a b, σ, st, Q, X => wpE a σ st (fun x st1 => wpE b σ st1 (fun y st2 => ∃ n c fs q, x = .ref n ∧ st2[n]? = some (.ins c fs) ∧ P.mt c "__eq__" = some q ∧ eqOk st2 c y ∧ F q [x, y] st2 (fun v st3 => ∃ t, v = .bl t ∧ Q (.bl (if neg then !t else t)) st3) X) X) X
  | .olen a, σ, st, Q, X => wpE a σ st (fun x st1 => ∃ n c fs q, x = .ref n ∧ st1[n]? = some (.ins c fs) ∧ P.mt c "__len__" = some q ∧ F q [x] st1 (fun v st2 => ∃ i : Int, v = .int i ∧ 0 ≤ i ∧ i < 2 ^ 62 ∧ Q v st2) X) X
  | .iso a c, σ, st, Q, X => wpE a σ st (fun x st1 => opIso c x st1 fun b st2 => Q (.bl b) st2) X
  | .mkx c a, σ, st, Q, X => wpE a σ st (fun v st1 => Q (.ref st1.length) (st1 ++ [.exc c v])) X
  | .mkb a, σ, st, Q, X => wpE a σ st (fun _ st1 => Q (.ref st1.length) (st1 ++ [.bex])) X
  | .isv a, σ, st, Q, X => wpE a σ st (fun x st1 => anyXc st1 x ∧ Q (.bl true) st1) X
  | .lset a, σ, st, Q, X => wpE a σ st (fun x st1 => ∃ ts : List Tx, lstOf st1 x = some (ts.map .str) ∧ ts.length ≤ 4000 ∧ Q (.int ((uniq ts).length : Nat)) st1) X
  | .lit a, σ, st, Q, X => wpE a σ st (fun x st1 => ∃ n kvs, x = .ref n ∧ st1[n]? = some (.dic false kvs) ∧ Q (.ref st1.length) (st1 ++ [.lst (kvs.map fun kv => .tup [kv.1, kv.2])])) X
  | .ino neg a b, σ, st, Q, X => wpE a σ st (fun x st1 => wpE b σ st1 (fun y st2 => ∃ n c fs q, y = .ref n ∧ st2[n]? = some (.ins c fs) ∧ P.mt c "__contains__" = some q ∧ F q [y, x] st2 (fun v st3 => ∃ t, v = .bl t ∧ Q (.bl (if neg then !t else t)) st3) X) X) X
def wpA : IA → Env → Sto → (List MV → Sto → Prop) → Xp → Prop
  | .nil, _, st, Q, _ => Q [] st
  | .cons e r, σ, st, Q, X => wpE e σ st (fun v st1 => wpA r σ st1 (fun vs st2 => Q (v :: vs) st2) X) X
  | .star e r, σ, st, Q, X => wpE e σ st (fun v st1 => ∃ xs, seqOf st1 v = some xs ∧ wpA r σ st1 (fun vs st2 => Q (xs ++ vs) st2) X) X
  | .rep a c z r, σ, st, Q, X => wpE a σ st (fun v st1 => ∃ t, v = .str t ∧ t.length + (t.length + 1) * z.length ≤ big ∧ wpA r σ st1 (fun vs st2 => Q (.str (joinBy z (splitOn c t)) :: vs) st2) X) X
def wpP : IP → Env → Sto → (List (MV × MV) → Sto → Prop) → Xp → Prop
  | .nil, _, st, Q, _ => Q [] st
  | .cons k v r, σ, st, Q, X => wpE k σ st (fun x st1 => wpE v σ st1 (fun y st2 => wpP r σ st2 (fun kvs st3 => Q ((x, y) :: kvs) st3) X) X) X
def wpO : IO → Env → Sto → (Option Int → Sto → Prop) → Xp → Prop
  | .non, _, st, Q, _ => Q none st
  | .som e, σ, st, Q, X => wpE e σ st (fun v st1 => ∃ i, v = .int i ∧ Q (some i) st1) X
def wpO' : IO → Env → Sto → (Bool → Sto → Prop) → Prop
  | .non, _, st, Q => Q true st
  | .som e, σ, st, Q => wpE e σ st (fun v st1 => ∃ t, truth st1 v = some t ∧ Q t st1) (fun _ _ _ => False)
/-- fin: what is done behind the last turn -/
def wpI : II → Env → Sto → (It → Sto → (Sto → (Sto → Prop) → Prop) → Prop) → Xp → Prop
  | .ev e, σ, st, R, X => wpE e σ st (fun v st1 => itemsOf v st1 fun J st2 => R J st2 fun st3 k => k st3) X
  | .rng a, σ, st, R, X => wpE a σ st (fun v st1 => ∃ n : Int, v = .int n ∧ -1000000 ≤ n ∧ n ≤ 1000000 ∧ R ⟨(List.range n.toNat).map fun (i : Nat) => .int (i : Int), fun _ => True⟩ st1 fun st3 k => k st3) X
  | .rng2 a b, σ, st, R, X => wpE a σ st (fun v st1 => wpE b σ st1 (fun w st2 => ∃ n m : Int, v = .int n ∧ w = .int m ∧ -1000000 ≤ n ∧ n ≤ 1000000 ∧ -1000000 ≤ m ∧ m ≤ 1000000 ∧
      R ⟨(List.range (m - n).toNat).map fun (i : Nat) => .int (n + (i : Int)), fun _ => True⟩ st2 fun st3 k => k st3) X) X
  | .enu e, σ, st, R, X => wpE e σ st (fun v st1 => ∃ a xs, v = .ref a ∧ st1[a]? = some (.lst xs) ∧ R ⟨enumFrom 0 xs, fun st' => st'[a]? = some (.lst xs)⟩ st1 fun st3 k => k st3) X
  | .zip a b, σ, st, R, X => wpE a σ st (fun v st1 => wpE b σ st1 (fun w st2 => ∃ xs ys, seqOf st2 v = some xs ∧ seqOf st2 w = some ys ∧
      R ⟨(xs.zip ys).map fun z => .tup [z.1, z.2], fun st' => seqOf st' v = some xs ∧ seqOf st' w = some ys⟩ st2 fun st3 k => k st3) X) X
  | .keys e, σ, st, R, X => wpE e σ st (fun v st0 => lockAt v st0 fun a kvs st1 => R ⟨keysOf kvs, fun st' => st'[a]? = some (.dic true kvs)⟩ st1 fun st3 k => unlock a kvs st3 k) X
  | .items e, σ, st, R, X => wpE e σ st (fun v st0 => lockAt v st0 fun a kvs st1 => R ⟨kvs.map fun kv => .tup [kv.1, kv.2], fun st' => st'[a]? = some (.dic true kvs)⟩ st1 fun st3 k => unlock a kvs st3 k) X
  | .vals e, σ, st, R, X => wpE e σ st (fun v st0 => lockAt v st0 fun a kvs st1 => R ⟨kvs.map (·.2), fun st' => st'[a]? = some (.dic true kvs)⟩ st1 fun st3 k => unlock a kvs st3 k) X
end

mutual
def wpS : IS → Ends → Env → Sto → Prop
  | .expr e, D, σ, st => wpE P F e σ st (fun _ st1 => D.nx σ st1) (fun c v st' => D.ex c v σ st')
  | .asg tg e, D, σ, st => wpE P F e σ st (fun v st1 => setTgS tg v σ st1 fun σ1 => D.nx σ1 st1) (fun c v st' => D.ex c v σ st')
  | .par ns es, D, σ, st => wpA P F es σ st (fun vs st1 => vs.length = ns.length ∧ D.nx ((ns.zip vs).foldl (fun s p => s.set p.1 (some p.2)) σ) st1) (fun c v st' => D.ex c v σ st')
  | .setsub o i e, D, σ, st => wpE P F e σ st (fun v st1 => wpE P F o σ st1 (fun x st2 => wpE P F i σ st2 (fun y st3 => opSet x y v st3 fun st4 => D.nx σ st4)
      (fun c v st' => D.ex c v σ st')) (fun c v st' => D.ex c v σ st')) (fun c v st' => D.ex c v σ st')
  | .set2 o i p j e, D, σ, st => wpE P F e σ st (fun w st1 => ∃ u v, w = .tup [u, v] ∧ wpE P F o σ st1 (fun x st2 => wpE P F i σ st2 (fun y st3 => opSet x y u st3 fun st4 =>
      wpE P F p σ st4 (fun x' st5 => wpE P F j σ st5 (fun y' st6 => opSet x' y' v st6 fun st7 => D.nx σ st7) (fun c v st' => D.ex c v σ st')) (fun c v st' => D.ex c v σ st'))
      (fun c v st' => D.ex c v σ st')) (fun c v st' => D.ex c v σ st')) (fun c v st' => D.ex c v σ st')
  | .setfld o f e, D, σ, st => wpE P F e σ st (fun v st1 => wpE P F o σ st1 (fun x st2 => ∃ n c fs, x = .ref n ∧ st2[n]? = some (.ins c fs) ∧ P.pr c f = some none ∧ fs.length < 20 ∧ D.nx σ (st2.set n (.ins c (putFld f v fs))))
      (fun c v st' => D.ex c v σ st')) (fun c v st' => D.ex c v σ st')
  | .iff c a b, D, σ, st => wpE P F c σ st (fun x st1 => ∃ t, truth st1 x = some t ∧ if t then wpSs a D σ st1 else wpSs b D σ st1) (fun c v st' => D.ex c v σ st')
  | .whl c b, D, σ, st => ∃ n, whileN (fun σ1 st1 k => wpE P F c σ1 st1 (fun x st2 => ∃ t, truth st2 x = some t ∧ k t st2) (fun c v st' => D.ex c v σ1 st')) (wpSs b) D n σ st
  | .for_ tg it b, D, σ, st => wpI P F it σ st (fun J st1 fin =>
      loop J.ok (fun x σ1 st2 k => setTg tg x σ1 fun σ2 => wpSs b { nx := k, ct := k, bk := fun σ' st' => fin st' fun st'' => D.nx σ' st'', rt := fun v st' => fin st' fun st'' => D.rt v st'', ex := fun c v σ' st' => Plain it = true ∧ D.ex c v σ' st' } σ2 st2) J.xs σ st1
        fun σ' st' => fin st' fun st'' => D.nx σ' st'') (fun c v st' => D.ex c v σ st')
  | .ret e, D, σ, st => wpE P F e σ st D.rt (fun c v st' => D.ex c v σ st')
  | .retN, D, _, st => D.rt .non st
  | .pass, D, σ, st => D.nx σ st
  | .brk, D, σ, st => D.bk σ st
  | .cont, D, σ, st => D.ct σ st
  | .raise c e, D, σ, st => wpE P F e σ st (fun v st1 => D.ex c v σ st1) (fun c v st' => D.ex c v σ st')
  | .bad, _, _, _ => False
def wpSs : List IS → Ends → Env → Sto → Prop
  | [], D, σ, st => D.nx σ st
  | s :: r, D, σ, st => wpS s { D with nx := fun σ1 st1 => wpSs r D σ1 st1 } σ st
end
end

/-- the program: k calls deep -/
def sem (P : Prog) : Nat → Phi
  | 0 => fun _ _ _ _ _ => False
  | k + 1 => fun q vs st Q X => ∃ d, P.df q = some d ∧ vs.length = d.np ∧
      wpSs P (sem P k) d.body ⟨fun _ st' => Q .non st', Q, fun _ _ => False, fun _ _ => False, fun c v _ st' => X c v st'⟩ (vs.map some ++ List.replicate (d.ns - d.np) none) st
end Mi
-- S1
namespace Snd
open PySem L2 Mi
abbrev HS := L2.St
abbrev Mu := Nat → Option Addr

mutual
/-- a tree's value in the real heap: g the addresses of what stands in the store, I the frozen part -/
def RepV (K : PySem.W.Frag) (g : Mu) (I : Hp) : MV → V → Prop
  | .non, v => v = .non
  | .bl b, v => v = .bl b
  | .int i, v => v = .int i
  | .str s, v => v = .str ⟨s.toArray⟩
  | .ref a, v => ∃ p, g a = some p ∧ v = .ref p
  | .tup xs, v => ∃ p vs, v = .ref p ∧ SqT K I p vs ∧ RepVs K g I xs vs
  | .lsv xs, v => ∃ p vs, v = .ref p ∧ SqL K I p vs ∧ RepVs K g I xs vs
def RepVs (K : PySem.W.Frag) (g : Mu) (I : Hp) : List MV → List V → Prop
  | [], vs => vs = []
  | x :: xs, vs => ∃ v r, vs = v :: r ∧ RepV K g I x v ∧ RepVs K g I xs r
end
def LeM (g g' : Mu) : Prop := ∀ a p, g a = some p → g' a = some p
def LeH (I I' : Hp) : Prop := ∀ p o, I p = some o → I' p = some o
theorem LeM.refl (g : Mu) : LeM g g := fun _ _ h => h
theorem LeH.refl (I : Hp) : LeH I I := fun _ _ h => h
theorem LeM.trans {a b c : Mu} (x : LeM a b) (y : LeM b c) : LeM a c := fun q p h => y q p (x q p h)
theorem LeH.trans {a b c : Hp} (x : LeH a b) (y : LeH b c) : LeH a c := fun q p h => y q p (x q p h)
theorem LeH.rd {I J : Hp} (h : LeH I J) {a : Addr} {u : HO} (r : Rd I a u) : Rd J a u := by
  rcases r with r | ⟨o, r⟩
  · exact .inl (h _ _ r)
  · exact .inr ⟨o, h _ _ r⟩
theorem LeH.tup {K : PySem.W.Frag} {I J : Hp} (h : LeH I J) {a : Addr} {xs : List V} (r : SqT K I a xs) : SqT K J a xs := by
  rcases r with r | r
  · exact .inl (h.rd r)
  · exact .inr r
theorem LeH.lst {K : PySem.W.Frag} {I J : Hp} (h : LeH I J) {a : Addr} {xs : List V} (r : SqL K I a xs) : SqL K J a xs := by
  rcases r with r | r
  · exact .inl (h.rd r)
  · exact .inr r

mutual
theorem RepV.mono {K : PySem.W.Frag} {g g' : Mu} {I I' : Hp} (hg : LeM g g') (hI : LeH I I') : ∀ {x : MV} {v : V}, RepV K g I x v → RepV K g' I' x v
  | .non, _, h => h
  | .bl _, _, h => h
  | .int _, _, h => h
  | .str _, _, h => h
  | .ref _, _, ⟨p, h1, h2⟩ => ⟨p, hg _ _ h1, h2⟩
  | .tup _, _, ⟨p, vs, h1, h2, h3⟩ => ⟨p, vs, h1, hI.tup h2, RepVs.mono hg hI h3⟩
  | .lsv _, _, ⟨p, vs, h1, h2, h3⟩ => ⟨p, vs, h1, hI.lst h2, RepVs.mono hg hI h3⟩
theorem RepVs.mono {K : PySem.W.Frag} {g g' : Mu} {I I' : Hp} (hg : LeM g g') (hI : LeH I I') : ∀ {xs : List MV} {vs : List V}, RepVs K g I xs vs → RepVs K g' I' xs vs
  | [], _, h => h
  | _ :: _, _, ⟨v, r, h1, h2, h3⟩ => ⟨v, r, h1, RepV.mono hg hI h2, RepVs.mono hg hI h3⟩
end
section
variable {K : PySem.W.Frag} {g : Mu} {I : Hp}
theorem RepVs.len : ∀ {xs : List MV} {vs : List V}, RepVs K g I xs vs → vs.length = xs.length
  | [], _, h => by have h : _ = _ := h; subst h; rfl
  | _ :: _, _, ⟨v, r, h1, h2, h3⟩ => by subst h1; simp [RepVs.len h3]
theorem RepVs.get : ∀ {xs : List MV} {vs : List V} {i : Nat} {x : MV}, RepVs K g I xs vs → xs[i]? = some x → ∃ v, vs[i]? = some v ∧ RepV K g I x v
  | [], _, _, _, _, h => by simp at h
  | _ :: _, _, 0, _, ⟨v, r, h1, h2, h3⟩, h => by subst h1; simp at h; subst h; exact ⟨v, rfl, h2⟩
  | _ :: _, _, i + 1, _, ⟨v, r, h1, h2, h3⟩, h => by
    subst h1
    simp only [List.getElem?_cons_succ] at h ⊢
    exact RepVs.get h3 h
theorem RepVs.getV : ∀ {xs : List MV} {vs : List V} {i : Nat} {v : V}, RepVs K g I xs vs → vs[i]? = some v → ∃ x, xs[i]? = some x ∧ RepV K g I x v := by
  intro xs vs i v h e
  have hi : i < xs.length := by rw [← h.len]; exact (List.getElem?_eq_some_iff.mp e).1
  obtain ⟨w, hw, r⟩ := h.get (List.getElem?_eq_getElem hi)
  rw [e] at hw; cases hw
  exact ⟨_, List.getElem?_eq_getElem hi, r⟩
theorem RepVs.app : ∀ {xs ys : List MV} {vs ws : List V}, RepVs K g I xs vs → RepVs K g I ys ws → RepVs K g I (xs ++ ys) (vs ++ ws)
  | [], _, _, _, h, h' => by have h : _ = _ := h; subst h; exact h'
  | _ :: _, _, _, _, ⟨v, r, h1, h2, h3⟩, h' => by subst h1; exact ⟨v, r ++ _, rfl, h2, RepVs.app h3 h'⟩
theorem RepVs.of_get : ∀ {xs : List MV} {vs : List V}, vs.length = xs.length → (∀ (i : Nat) x v, xs[i]? = some x → vs[i]? = some v → RepV K g I x v) → RepVs K g I xs vs
  | [], vs, hl, _ => by
    show vs = []
    exact List.length_eq_zero_iff.mp hl
  | x :: xs, [], hl, _ => by simp at hl
  | x :: xs, v :: vs, hl, h => ⟨v, vs, rfl, h 0 x v rfl rfl, RepVs.of_get (by simpa using hl) fun i y w a b => h (i + 1) y w (by simpa using a) (by simpa using b)⟩
theorem RepVs.set {xs : List MV} {vs : List V} {x : MV} {v : V} (h : RepVs K g I xs vs) (k : Nat) (r : RepV K g I x v) : RepVs K g I (xs.set k x) (vs.set k v) := by
  refine RepVs.of_get (by simp [h.len]) fun i y w a b => ?_
  by_cases e : i = k
  · subst e
    have hi : i < xs.length := by have := (List.getElem?_eq_some_iff.mp a).1; simpa using this
    rw [List.getElem?_set_self hi] at a
    rw [List.getElem?_set_self (by rw [h.len]; exact hi)] at b
    cases a; cases b; exact r
  · rw [List.getElem?_set_ne (Ne.symm e)] at a b
    obtain ⟨w', hw, r'⟩ := h.get a
    rw [b] at hw; cases hw; exact r'
theorem RepVs.take {xs : List MV} {vs : List V} (h : RepVs K g I xs vs) (n : Nat) : RepVs K g I (xs.take n) (vs.take n) := by
  refine RepVs.of_get (by simp [h.len]) fun i y w a b => ?_
  rw [List.getElem?_take] at a b
  split at a
  · rename_i c
    rw [if_pos c] at b
    obtain ⟨w', hw, r'⟩ := h.get a
    rw [b] at hw; cases hw; exact r'
  · cases a
theorem RepVs.drop {xs : List MV} {vs : List V} (h : RepVs K g I xs vs) (n : Nat) : RepVs K g I (xs.drop n) (vs.drop n) := by
  refine RepVs.of_get (by simp [h.len]) fun i y w a b => ?_
  rw [List.getElem?_drop] at a b
  obtain ⟨w', hw, r'⟩ := h.get a
  rw [b] at hw; cases hw; exact r'
theorem RepVs.rev {xs : List MV} {vs : List V} (h : RepVs K g I xs vs) : RepVs K g I xs.reverse vs.reverse := by
  refine RepVs.of_get (by simp [h.len]) fun i y w a b => ?_
  have hi : i < xs.length := by have := (List.getElem?_eq_some_iff.mp a).1; simpa using this
  rw [List.getElem?_reverse hi] at a
  rw [List.getElem?_reverse (by rw [h.len]; exact hi), h.len] at b
  obtain ⟨w', hw, r'⟩ := h.get a
  rw [b] at hw; cases hw; exact r'
theorem RepVs.erase {xs : List MV} {vs : List V} (h : RepVs K g I xs vs) (k : Nat) : RepVs K g I (xs.eraseIdx k) (vs.eraseIdx k) := by
  refine RepVs.of_get (by simp only [List.length_eraseIdx, h.len]) fun i y w a b => ?_
  rw [List.getElem?_eraseIdx] at a b
  split at a
  · rename_i c
    rw [if_pos c] at b
    obtain ⟨w', hw, r'⟩ := h.get a
    rw [b] at hw; cases hw; exact r'
  · rename_i c
    rw [if_neg c] at b
    obtain ⟨w', hw, r'⟩ := h.get a
    rw [b] at hw; cases hw; exact r'
theorem RepVs.one {x : MV} {vs : List V} (h : RepVs K g I [x] vs) : ∃ v, vs = [v] ∧ RepV K g I x v := by
  obtain ⟨v, r, h1, h2, h3⟩ := h
  have h3 : r = [] := h3
  subst h3
  exact ⟨v, h1, h2⟩
theorem RepVs.two {x y : MV} {vs : List V} (h : RepVs K g I [x, y] vs) : ∃ v w, vs = [v, w] ∧ RepV K g I x v ∧ RepV K g I y w := by
  obtain ⟨v, r, h1, h2, h3⟩ := h
  obtain ⟨w, h4, h5⟩ := h3.one
  subst h4
  exact ⟨v, w, h1, h2, h5⟩
theorem RepVs.of_one {x : MV} {v : V} (h : RepV K g I x v) : RepVs K g I [x] [v] := ⟨v, [], rfl, h, rfl⟩
/-- mapped from plain items -/
theorem RepVs.map {α : Type} {f : α → MV} {f' : α → V} (h : ∀ a, RepV K g I (f a) (f' a)) : ∀ l : List α, RepVs K g I (l.map f) (l.map f')
  | [] => rfl
  | a :: l => ⟨f' a, l.map f', rfl, h a, RepVs.map h l⟩
/-- what a mapped list of scalars stands for -/
theorem RepVs.of_map {α : Type} {f : α → MV} {f' : α → V} (h : ∀ a v, RepV K g I (f a) v → v = f' a) : ∀ {l : List α} {vs : List V}, RepVs K g I (l.map f) vs → vs = l.map f'
  | [], _, q => q
  | a :: l, _, ⟨v, r, h1, h2, h3⟩ => by rw [h1, h a v h2, RepVs.of_map h h3]; rfl
end

/-! ### dicts and attributes -/
def keyV : MV → Option Key
  | .int i => some (.inl i)
  | .str s => some (.inr ⟨s.toArray⟩)
  | _ => none
inductive RepKV (K : PySem.W.Frag) (g : Mu) (I : Hp) : List (MV × MV) → List (Key × V) → Prop where
  | nil : RepKV K g I [] []
  | cons {k x : MV} {k' : Key} {v : V} {r : List (MV × MV)} {r' : List (Key × V)} : keyV k = some k' → RepV K g I x v → RepKV K g I r r' → RepKV K g I ((k, x) :: r) ((k', v) :: r')
inductive RepFs (K : PySem.W.Frag) (g : Mu) (I : Hp) : List (String × MV) → List (Str × V) → Prop where
  | nil : RepFs K g I [] []
  | cons {f : String} {x : MV} {v : V} {r : List (String × MV)} {r' : List (Str × V)} : RepV K g I x v → RepFs K g I r r' → RepFs K g I ((f, x) :: r) ((Str.ofString f, v) :: r')

/-- classes, exception classes, tables of code objects -/
structure Kl where
  c : String → Option Addr
  x : String → Option Addr
  tabs : List (Addr × Str)
instance : CoeFun Kl fun _ => String → Option Addr := ⟨Kl.c⟩
/-- no table, nothing told freely -/
def noX : HO → Bool
  | .tbl _ => false
  | .ext _ => false
  | _ => true
def noT : HO → Bool
  | .tbl _ => false
  | _ => true
theorem tabs_upd {T : List (Addr × Str)} {H : Hp} {p : Addr} {u : HO} (t : LamX.Tabs T H) (h : H p = none ∨ ∃ w, H p = some w ∧ noX w = true) : LamX.Tabs T (upd H p u) := fun z hz => by
  obtain ⟨ps, h1, h2, h3⟩ := t z hz
  have ne : ∀ b w, H b = some w → noX w = false → b ≠ p := fun b w e n q => by
    subst q
    rcases h with h | ⟨w', h, k⟩
    · rw [h] at e; cases e
    · rw [h] at e; cases e; rw [n] at k; cases k
  refine ⟨ps, by rw [upd_ne (ne _ _ h1 rfl)]; exact h1, h2, fun pos cv hc => ?_⟩
  obtain ⟨c, e1, e2⟩ := h3 pos cv hc
  exact ⟨c, e1, by rw [upd_ne (ne _ _ e2 rfl)]; exact e2⟩
/-- a caught exception's object -/
def ExV (C dd p : Addr) : HO := .ext fun h => ∃ (oe : Obj) (vs : Array Value), h.get? p = some oe ∧ Zc (.ref C) (some dd) oe ∧ oe.data = .fields vs
/-- a ValueError's object -/
def BexV (p : Addr) : HO := .ext fun h => ∃ (oe : Obj) (vs : Array Value), h.get? p = some oe ∧ Zc (.type "ValueError") none oe ∧ oe.data = .fields vs
/-- what stands at p -/
def RepO (K : PySem.W.Frag) (cl : Kl) (g : Mu) (I F H : Hp) (p : Addr) : MO → Prop
  | .lst xs => ∃ vs, H p = some (.lst vs) ∧ RepVs K g I xs vs
  | .dic false kvs => ∃ ws, H p = some (.dK ws) ∧ RepKV K g I kvs ws
  | .dic true kvs => ∃ o ws, H p = some (.frz o (.dK ws)) ∧ RepKV K g I kvs ws ∧ F p = some (.frz o (.dK ws))
  | .ins c fs => ∃ C dx ws, cl c = some C ∧ H p = some (.ins C dx ws) ∧ RepFs K g I fs ws
  | .exc c v => ∃ C dd w, cl.x c = some C ∧ H p = some (ExV C dd p) ∧ I dd = some (.xd [("value", w)]) ∧ RepV K g I v w
  | .bex => H p = some (BexV p)

theorem RepKV.mono {K : PySem.W.Frag} {g g' : Mu} {I I' : Hp} (hg : LeM g g') (hI : LeH I I') {a : List (MV × MV)} {b : List (Key × V)} (h : RepKV K g I a b) : RepKV K g' I' a b := by
  induction h with
  | nil => exact .nil
  | cons h1 h2 _ ih => exact .cons h1 (h2.mono hg hI) ih
theorem RepFs.mono {K : PySem.W.Frag} {g g' : Mu} {I I' : Hp} (hg : LeM g g') (hI : LeH I I') {a : List (String × MV)} {b : List (Str × V)} (h : RepFs K g I a b) : RepFs K g' I' a b := by
  induction h with
  | nil => exact .nil
  | cons h2 _ ih => exact .cons (h2.mono hg hI) ih

/-- the store stands in the heap: F, what else is to stay, and what is locked -/
structure Sim (K : PySem.W.Frag) (cl : Kl) (g : Mu) (I F H : Hp) (st : Sto) : Prop where
  obj : ∀ a o, st[a]? = some o → ∃ p, g a = some p ∧ RepO K cl g I F H p o
  dom : ∀ a p, g a = some p → a < st.length
  inj : ∀ a b p, g a = some p → g b = some p → a = b
  ih : LeH I H
  im : ∀ a p, g a = some p → I p = none
  fh : LeH F H
  fm : ∀ a p u, g a = some p → F p = some u → ∃ o ws, u = .frz o (.dK ws)
  fi : ∀ p o, F p = some o → I p = none
  tb : LamX.Tabs cl.tabs H
  ti : ∀ p u, I p = some u → noT u = true
  tf : ∀ p u, F p = some u → noT u = true

section
variable {K : PySem.W.Frag} {cl : Kl} {g g' : Mu} {I I' F F' H H' : Hp} {st : Sto} {a : Nat} {p : Addr} {o : MO}
theorem RepO.mono (hg : LeM g g') (hI : LeH I I') (h : RepO K cl g I F H p o) (hp : H' p = H p) (hF : F' p = F p) : RepO K cl g' I' F' H' p o := by
  cases o with
  | lst xs => obtain ⟨vs, h1, h2⟩ := h; exact ⟨vs, by rw [hp]; exact h1, h2.mono hg hI⟩
  | dic lk kvs =>
    cases lk with
    | false => obtain ⟨ws, h1, h2⟩ := h; exact ⟨ws, by rw [hp]; exact h1, h2.mono hg hI⟩
    | true => obtain ⟨o, ws, h1, h2, h3⟩ := h; exact ⟨o, ws, by rw [hp]; exact h1, h2.mono hg hI, by rw [hF]; exact h3⟩
  | ins c fs => obtain ⟨C, dx, ws, h0, h1, h2⟩ := h; exact ⟨C, dx, ws, h0, by rw [hp]; exact h1, h2.mono hg hI⟩
  | exc c v => obtain ⟨C, dd, w, h0, h1, h2, h3⟩ := h; exact ⟨C, dd, w, h0, by rw [hp]; exact h1, hI _ _ h2, h3.mono hg hI⟩
  | bex => exact hp.trans h
theorem Sim.at_ (S : Sim K cl g I F H st) (hp : g a = some p) (hs : st[a]? = some o) : RepO K cl g I F H p o := by
  obtain ⟨q, h1, h2⟩ := S.obj a o hs
  rw [hp] at h1; cases h1; exact h2
theorem Sim.lt (S : Sim K cl g I F H st) (hs : st[a]? = some o) : a < st.length := (List.getElem?_eq_some_iff.mp hs).1
/-- a new frozen object -/
theorem Sim.frozen0 {u : HO} (S : Sim K cl g I F H st) (hn : H p = none) (hu : ∀ a q, g a = some q → q ≠ p) (hb : noT u = true) : Sim K cl g (upd I p u) F (upd H p u) st where
  obj := fun b o e => by
    obtain ⟨q, h1, h2⟩ := S.obj b o e
    have hI : LeH I (upd I p u) := fun z y h => by rw [upd_ne (ne_of_none (S.ih _ _ h) hn)]; exact h
    exact ⟨q, h1, h2.mono (LeM.refl _) hI (upd_ne (hu b q h1)) rfl⟩
  dom := S.dom
  inj := S.inj
  ih := fun q o h => by
    by_cases e : q = p
    · subst e; rw [upd_same] at h ⊢; exact h
    · rw [upd_ne e] at h ⊢; exact S.ih _ _ h
  im := fun b q h => by rw [upd_ne (hu b q h)]; exact S.im b q h
  fh := fun q o h => by rw [upd_ne (ne_of_none (S.fh _ _ h) hn)]; exact S.fh _ _ h
  fm := S.fm
  fi := fun q o h => by rw [upd_ne (ne_of_none (S.fh _ _ h) hn)]; exact S.fi _ _ h
  tb := tabs_upd S.tb (.inl hn)
  ti := fun q w h => by
    by_cases e : q = p
    · subst e; rw [upd_same] at h; cases h; exact hb
    · rw [upd_ne e] at h; exact S.ti q w h
  tf := S.tf
theorem Sim.live (S : Sim K cl g I F H st) (h : g a = some p) : ∃ o, st[a]? = some o ∧ RepO K cl g I F H p o := by
  have hl := S.dom a p h
  exact ⟨_, List.getElem?_eq_getElem hl, S.at_ h (List.getElem?_eq_getElem hl)⟩
/-- what is in the store is tracked -/
theorem Sim.tracked (S : Sim K cl g I F H st) (h : g a = some p) : ∃ o, H p = some o := by
  obtain ⟨o, _, r⟩ := S.live h
  cases o with
  | lst xs => obtain ⟨vs, h1, _⟩ := r; exact ⟨_, h1⟩
  | dic lk kvs =>
    cases lk with
    | false => obtain ⟨ws, h1, _⟩ := r; exact ⟨_, h1⟩
    | true => obtain ⟨o, ws, h1, _⟩ := r; exact ⟨_, h1⟩
  | ins c fs => obtain ⟨C, dx, ws, _, h1, _⟩ := r; exact ⟨_, h1⟩
  | exc c v => obtain ⟨C, dd, w, _, h1, _⟩ := r; exact ⟨_, h1⟩
  | bex => exact ⟨_, r⟩
theorem Sim.ne_new {q : Addr} (S : Sim K cl g I F H st) (h : g a = some q) (hn : H p = none) : q ≠ p := by
  obtain ⟨o, e⟩ := S.tracked h
  exact ne_of_none e hn
/-- what is written to is not held -/
theorem Sim.open_ {u : HO} (S : Sim K cl g I F H st) (h : g a = some p) (hu : H p = some u) (hn : ∀ o ws, u ≠ .frz o (.dK ws)) : F p = none := by
  cases e : F p with
  | none => rfl
  | some w =>
    obtain ⟨o, ws, rfl⟩ := S.fm a p w h e
    have := S.fh _ _ e
    rw [hu] at this
    cases this
    exact absurd rfl (hn o ws)
theorem upd_fresh_le {u : HO} (h : LeH I H) (hn : H p = none) : LeH I (upd H p u) := fun z y q => by rw [upd_ne (ne_of_none (h _ _ q) hn)]; exact h _ _ q
theorem fresh_le {u : HO} (h : LeH I H) (hn : H p = none) : LeH I (upd I p u) := fun z y q => by rw [upd_ne (ne_of_none (h _ _ q) hn)]; exact q
theorem Sim.frozen {u : HO} (S : Sim K cl g I F H st) (hn : H p = none) (hb : noT u = true := by rfl) : Sim K cl g (upd I p u) F (upd H p u) st := S.frozen0 hn (fun _ _ h => S.ne_new h hn) hb
/-- a new object of the store -/
def gAdd (g : Mu) (n : Nat) (p : Addr) : Mu := fun a => if a = n then some p else g a
theorem gAdd_le {n : Nat} (h : ∀ q, g n ≠ some q) : LeM g (gAdd g n p) := fun a q e => by
  unfold gAdd
  split
  · rename_i c; subst c; exact absurd e (h q)
  · exact e
theorem Sim.no (S : Sim K cl g I F H st) : ∀ q, g st.length ≠ some q := fun q e => Nat.lt_irrefl _ (S.dom _ _ e)
/-- an object is put to the store: w, what was held there -/
theorem Sim.add {u : HO} {mo : MO} (S : Sim K cl g I F' H st) (hg : ∀ a q, g a = some q → q ≠ p) (hi : I p = none) (hf : F p = none) (hF : ∀ q, q ≠ p → F' q = F q) (hx : H p = none ∨ ∃ w, H p = some w ∧ noX w = true) (hr : RepO K cl (gAdd g st.length p) I F (upd H p u) p mo) :
    Sim K cl (gAdd g st.length p) I F (upd H p u) (st ++ [mo]) where
  obj := fun b o e => by
    by_cases hb : b < st.length
    · rw [List.getElem?_append_left hb] at e
      obtain ⟨q, h1, h2⟩ := S.obj b o e
      exact ⟨q, gAdd_le S.no _ _ h1, h2.mono (gAdd_le S.no) (LeH.refl _) (upd_ne (hg _ _ h1)) (hF q (hg _ _ h1)).symm⟩
    · have hb' : b = st.length := by
        have := (List.getElem?_eq_some_iff.mp e).1
        simp at this; omega
      subst hb'
      rw [List.getElem?_append_right (Nat.le_refl _)] at e
      simp at e
      subst e
      exact ⟨p, by unfold gAdd; rw [if_pos rfl], hr⟩
  dom := fun b q e => by
    unfold gAdd at e
    split at e
    · rename_i c; subst c; simp
    · have := S.dom _ _ e; simp; omega
  inj := fun b c q h1 h2 => by
    unfold gAdd at h1 h2
    split at h1
    · rename_i e1
      split at h2
      · rename_i e2; omega
      · cases h1; exact absurd rfl (hg _ _ h2)
    · split at h2
      · cases h2; exact absurd rfl (hg _ _ h1)
      · exact S.inj _ _ _ h1 h2
  ih := fun q o h => by
    rw [upd_ne (fun z => by subst z; rw [hi] at h; cases h)]
    exact S.ih _ _ h
  im := fun b q h => by
    unfold gAdd at h
    split at h
    · cases h; exact hi
    · exact S.im b q h
  fh := fun q o h => by
    have z : q ≠ p := fun z => by subst z; rw [hf] at h; cases h
    rw [upd_ne z]
    exact S.fh _ _ (by rw [hF q z]; exact h)
  fm := fun b q u h e => by
    have z : q ≠ p := fun z => by subst z; rw [hf] at e; cases e
    unfold gAdd at h
    split at h
    · cases h; exact absurd rfl z
    · exact S.fm b q u h (by rw [hF q z]; exact e)
  fi := fun q o h => by
    have z : q ≠ p := fun z => by subst z; rw [hf] at h; cases h
    exact S.fi q o (by rw [hF q z]; exact h)
  tb := tabs_upd S.tb hx
  ti := S.ti
  tf := fun q o h => by
    have z : q ≠ p := fun z => by subst z; rw [hf] at h; cases h
    exact S.tf q o (by rw [hF q z]; exact h)
theorem Sim.new {u : HO} {mo : MO} (S : Sim K cl g I F H st) (hn : H p = none) (hr : RepO K cl (gAdd g st.length p) I F (upd H p u) p mo) :
    Sim K cl (gAdd g st.length p) I F (upd H p u) (st ++ [mo]) := by
  have hf : F p = none := by
    cases e : F p with
    | none => rfl
    | some o => rw [S.fh _ _ e] at hn; cases hn
  have hi : I p = none := by
    cases e : I p with
    | none => rfl
    | some o => rw [S.ih _ _ e] at hn; cases hn
  exact S.add (fun _ _ h => S.ne_new h hn) hi hf (fun _ _ => rfl) (.inl hn) hr
/-- what was held becomes an object of the store -/
theorem Sim.adopt {u w : HO} {mo : MO} (S : Sim K cl g I (upd F p w) H st) (hw : ∀ o ws, w ≠ .frz o (.dK ws)) (hf : F p = none) (hr : RepO K cl (gAdd g st.length p) I F (upd H p u) p mo) (hb : noX w = true := by rfl) :
    Sim K cl (gAdd g st.length p) I F (upd H p u) (st ++ [mo]) := by
  refine S.add (fun a q e z => ?_) (S.fi p w upd_same) hf (fun q z => upd_ne z) (.inr ⟨w, S.fh p w upd_same, hb⟩) hr
  subst z
  obtain ⟨o, ws, z⟩ := S.fm _ _ w e upd_same
  exact hw o ws z
/-- an object of the store is changed -/
theorem Sim.put {u : HO} {mo : MO} (S : Sim K cl g I F' H st) (hg : g a = some p) (hF : ∀ q, q ≠ p → F' q = F q) (hp : ∀ w, F p = some w → ∃ o ws, w = .frz o (.dK ws) ∧ u = w) (hx : ∃ w, H p = some w ∧ noX w = true) (hr : RepO K cl g I F (upd H p u) p mo) : Sim K cl g I F (upd H p u) (st.set a mo) where
  obj := fun b o e => by
    by_cases hb : b = a
    · subst hb
      rw [List.getElem?_set_self (S.dom _ _ hg)] at e
      cases e
      exact ⟨p, hg, hr⟩
    · rw [List.getElem?_set_ne (Ne.symm hb)] at e
      obtain ⟨q, h1, h2⟩ := S.obj b o e
      have hq : q ≠ p := fun z => by subst z; exact hb (S.inj _ _ _ h1 hg)
      exact ⟨q, h1, h2.mono (LeM.refl _) (LeH.refl _) (upd_ne hq) (hF q hq).symm⟩
  dom := fun b q e => by rw [List.length_set]; exact S.dom b q e
  inj := S.inj
  ih := fun q o h => by
    have hq : q ≠ p := fun z => by subst z; rw [S.im _ _ hg] at h; cases h
    rw [upd_ne hq]; exact S.ih _ _ h
  im := S.im
  fh := fun q o h => by
    by_cases hq : q = p
    · subst hq
      obtain ⟨_, _, _, rfl⟩ := hp _ h
      rw [upd_same]
    · rw [upd_ne hq]; exact S.fh _ _ (by rw [hF q hq]; exact h)
  fm := fun b q w h e => by
    by_cases hq : q = p
    · subst hq
      obtain ⟨o, ws, z, _⟩ := hp w e
      exact ⟨o, ws, z⟩
    · exact S.fm b q w h (by rw [hF q hq]; exact e)
  fi := fun q o h => by
    by_cases hq : q = p
    · subst hq; exact S.im _ _ hg
    · exact S.fi q o (by rw [hF q hq]; exact h)
  tb := tabs_upd S.tb (.inr hx)
  ti := S.ti
  tf := fun q o h => by
    by_cases hq : q = p
    · subst hq; obtain ⟨_, _, rfl, _⟩ := hp o h; rfl
    · exact S.tf q o (by rw [hF q hq]; exact h)
def okW : HO → Bool
  | .lst _ => true
  | .dK _ => true
  | .ins _ _ _ => true
  | _ => false
theorem Sim.write {u w : HO} {mo : MO} (S : Sim K cl g I F H st) (hg : g a = some p) (e : H p = some w) (hw : okW w = true) (hr : RepO K cl g I F (upd H p u) p mo) : Sim K cl g I F (upd H p u) (st.set a mo) := by
  have hf : F p = none := S.open_ hg e fun o ws z => by subst z; cases hw
  exact S.put hg (fun _ _ => rfl) (fun w e => by rw [hf] at e; cases e) ⟨w, e, by cases w <;> first | rfl | cases hw⟩ hr
/-- a dict is locked -/
theorem Sim.lock {kvs : List (MV × MV)} {ws : List (Key × V)} (S : Sim K cl g I F H st) (hg : g a = some p) (e : H p = some (.dK ws)) (hr : RepKV K g I kvs ws) (od : Obj) :
    Sim K cl g I (upd F p (.frz od (.dK ws))) (upd H p (.frz od (.dK ws))) (st.set a (.dic true kvs)) :=
  S.put hg (fun q z => (upd_ne z).symm) (fun w e => by rw [upd_same] at e; cases e; exact ⟨od, ws, rfl, rfl⟩) ⟨_, e, rfl⟩ ⟨od, ws, upd_same, hr, upd_same⟩
theorem Sim.unlock {kvs : List (MV × MV)} {ws : List (Key × V)} {od : Obj} (S : Sim K cl g I (upd F p (.frz od (.dK ws))) H st) (hf : F p = none) (hg : g a = some p) (hs : st[a]? = some (.dic true kvs)) :
    Sim K cl g I F (upd H p (.dK ws)) (st.set a (.dic false kvs)) := by
  obtain ⟨o, ws', h1, h2, h3⟩ := S.at_ hg hs
  rw [upd_same] at h3
  cases h3
  exact S.put hg (fun q z => upd_ne z) (fun w e => by rw [hf] at e; cases e) ⟨_, h1, rfl⟩ ⟨ws, upd_same, h2⟩
/-- a further thing to stay -/
theorem Sim.frame {u : HO} (S : Sim K cl g I F H st) (hn : H p = none) (hb : noT u = true := by rfl) : Sim K cl g I (upd F p u) (upd H p u) st where
  obj := fun b o e => by
    obtain ⟨q, h1, h2⟩ := S.obj b o e
    exact ⟨q, h1, h2.mono (LeM.refl _) (LeH.refl _) (upd_ne (S.ne_new h1 hn)) (upd_ne (S.ne_new h1 hn))⟩
  dom := S.dom
  inj := S.inj
  ih := upd_fresh_le S.ih hn
  im := S.im
  fh := fun q o h => by
    by_cases e : q = p
    · subst e; rw [upd_same] at h ⊢; exact h
    · rw [upd_ne e] at h ⊢; exact S.fh _ _ h
  fm := fun b q w h e => by rw [upd_ne (S.ne_new h hn)] at e; exact S.fm b q w h e
  fi := fun q o h => by
    by_cases e : q = p
    · subst e
      cases z : I q with
      | none => rfl
      | some o => rw [S.ih _ _ z] at hn; cases hn
    · rw [upd_ne e] at h; exact S.fi _ _ h
  tb := tabs_upd S.tb (.inl hn)
  ti := S.ti
  tf := fun q o h => by
    by_cases e : q = p
    · subst e; rw [upd_same] at h; cases h; exact hb
    · rw [upd_ne e] at h; exact S.tf _ _ h
/-- what is held is changed -/
theorem Sim.reframe {u w : HO} (S : Sim K cl g I (upd F p w) H st) (hw : ∀ o ws, w ≠ .frz o (.dK ws)) (hb : noX w = true := by rfl) (hu : noT u = true := by rfl) : Sim K cl g I (upd F p u) (upd H p u) st := by
  have ng : ∀ {a q}, g a = some q → q ≠ p := fun {a q} e z => by
    subst z
    obtain ⟨o, ws, z⟩ := S.fm _ _ w e upd_same
    exact hw o ws z
  have ni : I p = none := S.fi p w upd_same
  have hF : ∀ q, q ≠ p → upd F p w q = upd F p u q := fun q z => by rw [upd_ne z, upd_ne z]
  exact {
    obj := fun b o e => by
      obtain ⟨q, h1, h2⟩ := S.obj b o e
      exact ⟨q, h1, h2.mono (LeM.refl _) (LeH.refl _) (upd_ne (ng h1)) (hF q (ng h1)).symm⟩
    dom := S.dom
    inj := S.inj
    ih := fun q o h => by
      rw [upd_ne (fun z => by subst z; rw [ni] at h; cases h)]
      exact S.ih _ _ h
    im := S.im
    fh := fun q o h => by
      by_cases e : q = p
      · subst e; rw [upd_same] at h ⊢; exact h
      · rw [upd_ne e]; rw [← hF q e] at h; exact S.fh _ _ h
    fm := fun b q w' h e => S.fm b q w' h (by rw [hF q (ng h)]; exact e)
    fi := fun q o h => by
      by_cases e : q = p
      · subst e; exact ni
      · exact S.fi q o (by rw [hF q e]; exact h)
    tb := tabs_upd S.tb (.inr ⟨w, S.fh p w upd_same, hb⟩)
    ti := S.ti
    tf := fun q o h => by
      by_cases e : q = p
      · subst e; rw [upd_same] at h; cases h; exact hu
      · exact S.tf q o (by rw [hF q e]; exact h) }
end

/-- what is wanted of a value, told over the real heap -/
def QV (K : PySem.W.Frag) (cl : Kl) (g : Mu) (I F : Hp) (Q : Post) : V → Hp → Prop :=
  fun v H' => ∃ g' I' x st', LeM g g' ∧ LeH I I' ∧ Sim K cl g' I' F H' st' ∧ RepV K g' I' x v ∧ Q x st'
theorem QV.from_ {K : PySem.W.Frag} {cl : Kl} {g g1 : Mu} {I I1 F : Hp} {Q : Post} {v : V} {H : Hp} (hg : LeM g g1) (hI : LeH I I1) (h : QV K cl g1 I1 F Q v H) : QV K cl g I F Q v H := by
  obtain ⟨g', I', x, st', a, b, c⟩ := h
  exact ⟨g', I', x, st', hg.trans a, hI.trans b, c⟩
theorem QV.mk {K : PySem.W.Frag} {cl : Kl} {g : Mu} {I F H : Hp} {st : Sto} {Q : Post} {x : MV} {v : V} (S : Sim K cl g I F H st) (r : RepV K g I x v) (h : Q x st) : QV K cl g I F Q v H :=
  ⟨g, I, x, st, LeM.refl _, LeH.refl _, S, r, h⟩
section
variable {K : PySem.W.Frag} {cl : Kl} {g : Mu} {I F H : Hp} {st : Sto} {Q : Post}
theorem QV.int {i : Int} (S : Sim K cl g I F H st) (h : Q (.int i) st) : QV K cl g I F Q (.int i) H := QV.mk (x := .int i) S rfl h
theorem QV.bl {b : Bool} (S : Sim K cl g I F H st) (h : Q (.bl b) st) : QV K cl g I F Q (.bl b) H := QV.mk (x := .bl b) S rfl h
theorem QV.non (S : Sim K cl g I F H st) (h : Q .non st) : QV K cl g I F Q .non H := QV.mk (x := .non) S rfl h
theorem QV.str {s : Tx} (S : Sim K cl g I F H st) (h : Q (.str s) st) : QV K cl g I F Q (.str ⟨s.toArray⟩) H := QV.mk (x := .str s) S rfl h
theorem QV.tup {p : Addr} {xs : List MV} {vs : List V} (S : Sim K cl g I F H st) (h1 : SqT K I p vs) (r : RepVs K g I xs vs) (h : Q (.tup xs) st) : QV K cl g I F Q (.ref p) H := QV.mk (x := .tup xs) S ⟨p, vs, rfl, h1, r⟩ h
theorem QV.ref {p : Addr} {a : Nat} (S : Sim K cl g I F H st) (h1 : g a = some p) (h : Q (.ref a) st) : QV K cl g I F Q (.ref p) H := QV.mk (x := .ref a) S ⟨p, h1, rfl⟩ h
end
end Snd
-- SM
set_option maxHeartbeats 4000000
namespace Snd
open PySem PySem.Spec PyProof.Rows L2
theorem tuple_mulW1 (l : Addr) (items : Array Value) (n : Nat) (sl : Array (Option Value)) (dd : Option Addr) (u : Tok) :
    Meets (Builtin.«tuple.__mul__» ⟨[.ref l, .int 1 u], []⟩) (fun _ R s => s.heap.get? l = some { cls := .type "tuple", dict := dd, data := .seq items n, slots := sl } ∧ R (.ok (.ret (Value.ref l))) s) :=
  .of_wp fun prog w A R s h => by
    obtain ⟨hp, g, d, tk, os⟩ := s
    obtain ⟨hl, h⟩ := h
    have f1 := AutoSeq1.idx_int
    have c0 : (decide ((1 : Int) < -(2 ^ 63)) || decide ((1 : Int) ≥ 2 ^ 63)) = false := by decide
    have c1 : (items.isEmpty || (1 : Int) == 1) = true := by simp
    wp_walk using wpAny_loadPart' hl
    repeat (first
      | (refine wpAny_ite_false (decide_eq_false (by rw [c0]; exact Bool.false_ne_true)) ?_; wp_walk using wpAny_loadPart' hl)
      | (refine wpAny_ite_true (decide_eq_true c1) ?_; wp_walk using wpAny_loadPart' hl))
    exact ⟨_, rfl, h⟩
section
variable {X : Cx}
theorem op_repT1 : OpR X (binaryOp .Mult) (fun x y H Q => ∃ l xs, x = .ref l ∧ y = .int 1 ∧ SqT X.K H l xs ∧ Q (.ref l) H) := by
  intro pins s σ H x y v u Q I rx ry h
  obtain ⟨l, xs, rfl, rfl, hT, q⟩ := h
  cases rx
  obtain ⟨t, rfl⟩ := ry
  obtain ⟨its, r, ⟨⟨cls, dd, data, sl⟩, ho, hc, n, hd⟩, hs⟩ := I.tuple hT
  simp only at hc hd
  subst hc hd
  refine wpAny_binaryOp_repeat_ref (T := "tuple") (U := "int") (by decide) ⟨_, ho, rfl⟩ (fun s' => typeIs_int s' 1 t) noFill_tuple_mul F.fills_int_mul F.slot_int_rmul repeat_tuple F.slot_int_index.lookup
    (call_meets F.slot_int_rmul (typeIs_int s 1 t) F.entry_int_rmul (F.args_int_rmul_2 _ _) (int_rmul_tuple 1 t l its.toArray n dd sl)
      ⟨ho, rfl, ⟨_, ho, rfl⟩, call_meets F.slot_tuple_mul ⟨_, ho, rfl⟩ F.entry_tuple_mul (F.args_tuple_mul_2 _ _) (tuple_mulW1 l its.toArray n sl dd t) ⟨ho, ?_⟩⟩)
  exact ⟨.ref l, H, I, rfl, q⟩
/-! ### in, deep, in a tuple -/
def rInDT (K : PySem.W.Frag) : R2 := fun x y H Q => ∃ d ds, Dp K H x d ∧ Dp K H y (.tuple ds) ∧ SeqAt.shaped d = true ∧ SeqAt.shaped (.tuple ds) = true ∧ Q (.bl (ds.any fun z => PyData.eqv z d)) H
def rNotInDT (K : PySem.W.Frag) : R2 := fun x y H Q => ∃ d ds, Dp K H x d ∧ Dp K H y (.tuple ds) ∧ SeqAt.shaped d = true ∧ SeqAt.shaped (.tuple ds) = true ∧ Q (.bl (!ds.any fun z => PyData.eqv z d)) H
theorem op_inDT (hu : X.A.units + 65 < cLine) : OpR X (compareOp .In) (rInDT X.K) := by
  intro pins s σ H x y v u Q I rx ry h
  obtain ⟨d, ds, hd, he, sd, se, q⟩ := h
  obtain ⟨as, r1⟩ := Dp.reads I d x v hd rx
  obtain ⟨bs, r2⟩ := Dp.reads I (.tuple ds) y u he ry
  exact SeqAt.in_tuple_reads r2 r1 (SeqAt.canLay_of_shaped se) (SeqAt.canLay_of_shaped sd) (room_in_shaped sd hu) ⟨.bl _, H, I, rfl, q⟩
theorem op_notInDT (hu : X.A.units + 65 < cLine) : OpR X (compareOp .NotIn) (rNotInDT X.K) := by
  intro pins s σ H x y v u Q I rx ry h
  obtain ⟨d, ds, hd, he, sd, se, q⟩ := h
  obtain ⟨as, r1⟩ := Dp.reads I d x v hd rx
  obtain ⟨bs, r2⟩ := Dp.reads I (.tuple ds) y u he ry
  exact SeqAt.notIn_tuple_reads r2 r1 (SeqAt.canLay_of_shaped se) (SeqAt.canLay_of_shaped sd) (room_in_shaped sd hu) ⟨.bl _, H, I, rfl, q⟩
end
end Snd
-- ST
set_option maxHeartbeats 4000000
/-! sets of texts: len(set(x)) -/
namespace Snd
open PySem PySem.Spec PyProof.Rows L2

def metS (xs : List Str) : List Str := xs.foldl (fun σ x => if σ.any (· == x) then σ else σ ++ [x]) []
theorem metS_app (xs : List Str) (x : Str) : metS (xs ++ [x]) = if (metS xs).any (· == x) then metS xs else metS xs ++ [x] := by
  unfold metS; rw [List.foldl_append]; rfl
theorem metS_any (x : Str) : ∀ (n : Nat) (xs : List Str), xs.length = n → (metS xs).any (· == x) = xs.any (· == x)
  | 0, xs, h => by
    have := List.length_eq_zero_iff.mp h
    subst this; rfl
  | n + 1, xs, h => by
    have hne : xs ≠ [] := fun e => by subst e; cases h
    obtain ⟨ys, y, rfl⟩ : ∃ ys y, xs = ys ++ [y] := ⟨xs.dropLast, xs.getLast hne, (List.dropLast_concat_getLast hne).symm⟩
    have hl : ys.length = n := by simpa using h
    rw [metS_app, List.any_append]
    have ih := metS_any x n ys hl
    have ihy := metS_any y n ys hl
    by_cases c : (metS ys).any (· == y) = true
    · rw [if_pos c, ih]
      by_cases e : y = x
      · subst e
        rw [← ihy, c]; rfl
      · have hb : (y == x) = false := by simpa [beq_iff_eq] using e
        simp [hb]
    · rw [if_neg c, List.any_append, ih]
theorem metS_len (xs : List Str) : ∀ n, xs.length = n → (metS xs).length ≤ n := by
  intro n
  induction n generalizing xs with
  | zero =>
    intro h
    have := List.length_eq_zero_iff.mp h
    subst this; exact Nat.le_refl _
  | succ n ih =>
    intro h
    have hne : xs ≠ [] := fun e => by subst e; cases h
    obtain ⟨ys, y, rfl⟩ : ∃ ys y, xs = ys ++ [y] := ⟨xs.dropLast, xs.getLast hne, (List.dropLast_concat_getLast hne).symm⟩
    have hl : ys.length = n := by simpa using h
    rw [metS_app]
    have := ih ys hl
    split
    · omega
    · rw [List.length_append, List.length_singleton]; omega
section
variable {prog : Program} {w : World} {A : Around} {R : Result → Shared → Prop} {I : Addr} {fp wr : List Addr} {G : Array GenState → Array GenState → Prop} {n : Nat} {P : Nat → Value → Prop} {St : Nat → Shared → Prop}
/-- the set holds what was met so far -/
abbrev Holds (prog : Program) (w : World) (h : Heap) (S : Addr) (xs : List Str) : Prop := h.SetOf (PySem.strKind prog w) S (fun k => xs.any (· == k)) (metS xs).length
theorem Holds.at {h h' : Heap} {S : Addr} {xs : List Str} (x : Holds prog w h S xs) (k : ∀ o, h.get? S = some o → h'.get? S = some o) : Holds prog w h' S xs := by
  obtain ⟨o, es, ep, t, ho, r⟩ := x
  exact ⟨o, es, ep, t, k o ho, r⟩
theorem upd_texts (W : WalksS prog w A.in1 I fp wr G n P St) {S : Addr} (hSf : S ∉ fp) {xs : List Str} (hsz : xs.length = n) (hb : n + 1 < scanBound) (hval : ∀ i v, P i v → ∃ t, v = .str (xs.getD i Str.empty) t) {s0 : Shared}

    (fin : ∀ s', Moved (S :: wr) G s0 s' → Holds prog w s'.heap S xs → R (.ok (.ret .none)) s') :
    ∀ (k i : Nat) (s : Shared), i + k = n → Moved (S :: wr) G s0 s → St i s → Holds prog w s.heap S (xs.take i) →
      codeAny (model prog w) A (.builtin "set.update.loop" ⟨[.ref S, .ref I], []⟩) R s := by
  have up : ∀ b ∈ wr, b ∈ S :: wr := fun b hb => List.mem_cons_of_mem _ hb
  have off : S ∉ wr := fun h => hSf (W.sub _ h)
  intro k
  induction k with
  | zero =>
    intro i s hk hm0 hst hS
    obtain rfl : i = n := by omega
    refine codeAny_builtin PyProof.Rows.F.entry_set_update_loop ?_
    rw [Around.under_plainId PyProof.Rows.F.plain_set_update_loop _]
    show wpAny _ A.in1 (pyNext (.ref I) >>= _) _ _ s
    refine wpAny_bind (W.done s _ _ hst fun s' hm => ?_)
    rw [← hsz, List.take_length] at hS
    exact wpAny_pure (fin s' (Moved.trans W.gtrans hm0 (hm.mono up)) (hS.at fun o e => hm.heap S o off e))
  | succ k ih =>
    intro i s hk hm0 hst hS
    have hlt : i < n := by omega
    refine codeAny_builtin PyProof.Rows.F.entry_set_update_loop ?_
    rw [Around.under_plainId PyProof.Rows.F.plain_set_update_loop _]
    show wpAny _ A.in1 (pyNext (.ref I) >>= _) _ _ s
    refine wpAny_bind (W.item i s _ _ hlt hst fun v s1 hP hst1 hm => ?_)
    obtain ⟨t, rfl⟩ := hval i v hP
    have hx : xs[i]? = some (xs.getD i Str.empty) := by
      rw [List.getD_eq_getElem?_getD, List.getElem?_eq_getElem (by omega)]; rfl
    generalize xs.getD i Str.empty = x at hx ⊢
    have hS1 : Holds prog w s1.heap S (xs.take i) := hS.at fun o e => hm.heap S o off e
    have hc := metS_len (xs.take i) _ rfl
    have hi : (xs.take i).length ≤ i := List.length_take_le _ _
    refine wpAny_bind (wpAny_holding ?_)
    unfold setAdd
    refine wpAny_holding (wpAny_bind ((PySem.strKind prog w).pyHash (k := x) (strKind_is _ _ _ _) ?_))
    refine wpAny_setAddHashed_of (knd := PySem.strKind prog w) (s := { s1 with toks := s1.toks + 1 }) (strKind_is _ _ _ _) rfl hS1 (by omega) fun h2 hsb hS2 => ?_
    have hS3 : Holds prog w h2 S (xs.take (i + 1)) := by
      rw [List.take_add_one, hx]
      refine SetOf_congr hS2 (fun k' => ?_) ?_
      · show ((xs.take i).any (· == k') || decide (k' = x)) = (xs.take i ++ [x]).any (· == k')
        rw [List.any_append]
        by_cases e : k' = x
        · subst e; simp
        · have hb : (x == k') = false := by simpa [beq_iff_eq] using (fun h' : x = k' => e h'.symm)
          simp [hb, e]
      · show (if (xs.take i).any (· == x) = true then (metS (xs.take i)).length else (metS (xs.take i)).length + 1) = (metS (xs.take i ++ [x])).length
        rw [metS_app, metS_any x _ _ rfl]
        split
        · rfl
        · rw [List.length_append]; rfl
    have hm2 : Moved (S :: wr) G s0 { s1 with heap := h2, toks := s1.toks + 1 } := Moved.trans W.gtrans hm0 ((hm.mono up).then_heap (Nat.le_succ _) fun b o hb e => by
      rw [hsb.2 b (fun z : b = S => hb (by rw [z]; exact List.mem_cons_self))]; exact e)
    refine wpAny_pure ⟨plainId_quiet PyProof.Rows.F.plain_set_update_loop _, ih (i + 1) _ (by omega) hm2 (W.frame _ s1 _ _ hst1 (Nat.le_succ _) fun b hb o e => ?_) hS3⟩
    rw [hsb.2 b (fun z : b = S => hSf (by rw [← z]; exact hb))]; exact e
end

section
variable {prog : Program} {w : World} {A : Around} {E : Value → Shared → Prop} {s : Shared}
/-- the set that was just made takes the list's texts -/
theorem init_texts {A : Around} {E : Value → Shared → Prop} {l : Addr} {items : Array Value} {xs : List Str} (hh : A.handled = none) (hl : s.heap.IsList l items) (hi : StrsAre items.toList xs) (hn : xs.length + 1 < scanBound) (led : Bool) {oS : Obj}
    (ho : ({ cls := .type "set", dict := none, data := .set #[] 0 (.fresh 0 0 led) } : Obj) = oS) :
    wpAny (model prog w) A.in1.in1 (Builtin.«set.__init__» ⟨[.ref s.heap.objs.size, .ref l], []⟩)
      (fun fin s' => match fin with
        | .done f => wants (fun r s2 => r = .none ∧ ∃ h' tk, s2 = { s with heap := h', toks := tk } ∧ Holds prog w h' s.heap.objs.size xs ∧ (∀ b o, s.heap.get? b = some o → h'.get? b = some o)) E (.ok f) s'
        | .again c' => c'.quiet = true ∧ codeAny (model prog w) A.in1 c' (wants (fun r s2 => r = .none ∧ ∃ h' tk, s2 = { s with heap := h', toks := tk } ∧ Holds prog w h' s.heap.objs.size xs ∧ (∀ b o, s.heap.get? b = some o → h'.get? b = some o)) E) s')
      (fun e s' => wants (fun r s2 => r = .none ∧ ∃ h' tk, s2 = { s with heap := h', toks := tk } ∧ Holds prog w h' s.heap.objs.size xs ∧ (∀ b o, s.heap.get? b = some o → h'.get? b = some o)) E (.error e) s') { s with heap := s.heap.push oS } := by
  have hll : l < s.heap.objs.size := let ⟨_, z, _⟩ := hl; Heap.lt_size z
  have hl1 : (s.heap.push oS).IsList l items := hl.push _
  obtain ⟨ol, hol, hcl, nl, hdl⟩ := hl1
  obtain ⟨ocls, odict, odata, oslots⟩ := ol
  simp only at hcl hdl
  subst hcl; subst hdl
  have hS : (s.heap.push oS).get? s.heap.objs.size = some oS := Heap.get?_push_size _ (by rw [← ho]; rfl)
  have hsls := PySem.F.sub_list_set
  have hslf := PySem.F.sub_list_frozenset
  have hne : (Value.type "list" == Value.type "dict") = false := by decide
  have hl1 : (s.heap.push oS).IsList l items := hl.push _
  have hS' : (s.heap.push oS).get? s.heap.objs.size = some { cls := .type "set", dict := none, data := .set #[] 0 (.fresh 0 0 led) } := by rw [ho]; exact hS
  unfold Builtin.«set.__init__» noKeywords Builtin.Frozenset.updateFrom
  generalize hPI : pyIter = PI
  wp_walk
  subst hPI
  refine wpAny_pyIter_list hl1 ?_
  refine wpAny_bind (wpAny_runValue ?_)
  have hh3 : A.in1.in1.in1.handled = none := by simp [hh]
  have hz : (s.heap.push oS).objs.size = s.heap.objs.size + 1 := Heap.size_push ..
  have hneI : l ≠ (s.heap.push oS).objs.size := by rw [hz]; exact Nat.ne_of_lt (Nat.lt_succ_of_lt hll)
  have hSf : s.heap.objs.size ∉ [(s.heap.push oS).objs.size, l] := by
    simp only [List.mem_cons, List.not_mem_nil, or_false, not_or]
    exact ⟨by rw [hz]; exact Nat.ne_of_lt (Nat.lt_succ_self _), Nat.ne_of_gt hll⟩
  have hlen : xs.length = items.size := by rw [← StrsAre.len_eq hi, Array.length_toList]
  have hval : ∀ (i : Nat) (v : Value), items[i]? = some v → ∃ t, v = .str (xs.getD i Str.empty) t := fun i v hv => SS.strs_at hi i v (by rw [Array.getElem?_toList]; exact hv)
  have hS2 := Heap.get?_push_of_some { cls := .type "list_iterator", data := .fields #[.ref l, .int 0 0] } hS'
  refine upd_texts ((Walks.list hh3 _ l hneI items).toS) hSf hlen (by rw [← hlen]; exact hn) hval (s0 := { s with heap := (s.heap.push oS).push { cls := .type "list_iterator", data := .fields #[.ref l, .int 0 0] } }) (fun s' hm hS3 => ?_)
    items.size 0 _ (by omega) ⟨fun _ _ _ e => e, rfl, rfl, rfl, Nat.le_refl _⟩ ⟨⟨_, Heap.get?_push_size _ rfl, rfl, rfl⟩, hl1.push _⟩
    (PyProof.Rows.SetOf_congr ((PyProof.Rows.setObjOf_fresh (knd := PySem.strKind prog w) led).setOf hS2 (by unfold scanBound; omega)) (fun _ => rfl) rfl)
  obtain ⟨h', g', d', tk', os'⟩ := s'
  have eg : g' = s.gens := hm.gens
  have ed : d' = s.drawn := hm.drawn
  have eo : os' = s.os := hm.os
  subst eg; subst ed; subst eo
  refine wpAny_pure ?_
  show wpAny _ _ (ret Value.none) _ _ _
  refine wpAny_pure ⟨rfl, h', tk', rfl, hS3, fun b o e => ?_⟩
  have hb := Heap.lt_size e
  refine hm.heap b o ?_ (Heap.get?_push_of_some _ (Heap.get?_push_of_some _ e))
  simp only [List.mem_cons, List.not_mem_nil, or_false, not_or]
  exact ⟨Nat.ne_of_lt hb, by rw [hz]; exact Nat.ne_of_lt (Nat.lt_succ_of_lt hb)⟩
/-- set(xs), xs a list of texts -/
theorem call_set_texts {l : Addr} {items : Array Value} {xs : List Str} {Q : Value → Shared → Prop} (hh : A.handled = none) (hl : s.heap.IsList l items) (hi : StrsAre items.toList xs) (hn : xs.length + 1 < scanBound)
    (h : ∀ (h' : Heap) (tk : Nat), Holds prog w h' s.heap.objs.size xs → (∀ b o, s.heap.get? b = some o → h'.get? b = some o) → Q (.ref s.heap.objs.size) { s with heap := h', toks := tk }) :
    wpAny (model prog w) A (call (.type "set") [.ref l]) Q E s := by
  obtain ⟨c, tl, hmro⟩ := PySem.F.called_set.mro
  have hmade := PySem.F.called_set.made
  have hsub := PySem.F.called_set.sub
  have h1 := PySem.F.called_set.notType
  have h2 := PySem.F.called_set.canCreate
  have hct := PySem.F.typeCall_set_1 (.ref l)
  refine wpAny_call (codeAny_of_tree ?_)
  show wpAny _ _ (callAny (.type "set") _) _ _ _
  refine wpAny_pure ⟨Code.quiet_builtin _ (by decide +kernel), codeAny_builtin PySem.F.entry_type_call ?_⟩
  rw [Around.under_plain (weight_type_call_type "set" [.ref l] []) rfl]
  repeat (any_goals (first | assumption | wp_step))
  refine codeAny_mono (code_set_new_1 (.ref l) (E := E) (Q₁ := fun obj s1 => ∃ led : Bool, obj = .ref s.heap.objs.size ∧ s1 = { s with heap := s.heap.push { cls := .type "set", dict := none, data := .set #[] 0 (.fresh 0 0 led) } }) fun led => ⟨led, rfl, rfl⟩) fun r s1 hr => ?_
  cases r with
  | error e => exact hr
  | ok fl =>
    cases fl with
    | ret obj =>
      obtain ⟨led, rfl, rfl⟩ := hr
      generalize ho : ({ cls := .type "set", dict := none, data := .set #[] 0 (.fresh 0 0 led) } : Obj) = oS
      have hS : (s.heap.push oS).get? s.heap.objs.size = some oS := Heap.get?_push_size _ (by rw [← ho]; rfl)
      have hT : Shared.TypeIs { s with heap := s.heap.push oS } (.ref s.heap.objs.size) "set" := ⟨_, hS, by rw [← ho]⟩
      have hli := PySem.F.called_set.init.lookup
      have hbi := PySem.F.called_set.init.bind (.ref s.heap.objs.size)
      repeat (any_goals (first | assumption | wp_step))
      refine codeAny_mono (codeAny_call_builtin (R := wants (fun r s2 => r = .none ∧ ∃ h' tk, s2 = { s with heap := h', toks := tk } ∧ Holds prog w h' s.heap.objs.size xs ∧ (∀ b o, s.heap.get? b = some o → h'.get? b = some o)) E)
        PySem.F.called_set.init.plain PySem.F.entry_set_init (check_set_init_1 hT (init_texts hh hl hi hn led ho))) fun r2 s2 hr2 => ?_
      cases r2 with
      | error e => exact hr2
      | ok fl2 =>
        cases fl2 with
        | ret r =>
          obtain ⟨rfl, h', tk, rfl, hS', hk'⟩ := hr2
          repeat (any_goals (first | assumption | wp_step))
          exact h _ _ hS' hk'
        | _ => exact hr2.elim
    | _ => exact hr.elim
end
section
variable {X : Cx}
/-- len(set(xs)), xs a list of texts -/
def tLenSetT (K : PySem.W.Frag) (ta : TE) : TE := fun σ H Q => ta σ H fun x H1 => ∃ (l : Addr) (xs : List Str), x = .ref l ∧ SqL K H1 l (xs.map V.str) ∧ xs.length ≤ 4000 ∧ Q (.int ((metS xs).length : Nat)) H1
theorem pe_lenSetT {a : Expr} {ta : TE} {p p2 q pos : Pos} (hc : X.calm = true) (hg : Gl X "len") (hm : X.mg "len" = none) (hg2 : Gl X "set") (hm2 : X.mg "set" = none) (ha : PE X a ta)
    (na : starEach [a] X.env = (false, eval a X.env) :: starEach [] X.env := by rfl) : PE X (.Call (.Name "len" p) [.Call (.Name "set" p2) [a] [] q] [] pos) (tLenSetT X.K ta) := by
  refine ⟨fun pins s σ H Q I h => ?_⟩
  refine Call_ (ld_blt I hg hm boot_len ?_)
  refine PyProof.Rows.callWith_builtin1 (PyProof.Rows.args_cons ?_ rfl) rfl rfl
  refine Call_ (ld_blt I hg2 hm2 boot_set ?_)
  refine PyProof.Rows.callWith_type1 (PyProof.Rows.args_cons (thn (ha.run pins s σ H _ I h) fun v s1 ⟨x, H1, I1, r1, q1⟩ => PyProof.Rows.args_nil ?_) na) na rfl
  obtain ⟨l, xs, rfl, hq, hl, q1⟩ := q1
  cases r1
  obtain ⟨its, r, pl, hz⟩ := I1.list hq
  have hb : xs.length + 1 < scanBound := by unfold scanBound; omega
  refine call_set_texts (I1.ok.hd hc) pl.isList (by simpa using strsAre_of r) hb fun h' tk hS hk => ?_
  refine PyProof.Rows.args_nil ?_
  have hc := metS_len xs _ rfl
  obtain ⟨o, es, ep, t, ho, hex, hd, _, _, _, hf, hn⟩ := hS
  have I2 : Inv X pins σ H1 { s1 with heap := h', toks := tk } := I1.kept fun b o e => hk b o e
  exact call_len_set ho hex hd hf (by rw [hn]; omega) ⟨.int ((metS xs).length : Nat), H1, I2.tok _, ⟨_, by rw [hn]⟩, q1⟩
end
end Snd
-- SN
set_option maxHeartbeats 1000000
namespace Snd
open PySem PySem.Spec PyProof.Rows L2 HT
open PySem.SeqAt
open PySem.AutoSeq1 (wpAny_loadPart')
open PySem.MeetsSeq PySem.MeetsSeq2 PySem.MeetsSeq3
section
variable {prog : Program} {w : World} {A : Around} {E : Value → Shared → Prop} {s : Shared}
theorem places_rev (n : Nat) : Builtin.Slice.slicePlaces ((n : Int) - 1) (-1) (-1) = n := by
  unfold Builtin.Slice.slicePlaces
  by_cases h : n = 0
  · subst h; decide
  · have h1 : ¬ ((-1 : Int) > 0) := by decide
    simp
    omega
theorem sliceApplied_rev {sl : Addr} {vl vu vs : Value} {n : Nat} {Q : Int × Int × Nat → Shared → Prop} (hs : s.heap.IsSliceOf sl vl vu vs) (pl : IsPart vl none) (pu : IsPart vu none) (ps : IsPart vs (some (-1)))
    (h : Q (((n : Int) - 1), -1, n) s) : wpAny (model prog w) A (Builtin.Slice.sliceApplied (.ref sl) (pure (n : Int))) Q E s := by
  obtain ⟨os, hos, hcs, hds⟩ := id hs
  unfold Builtin.Slice.sliceApplied Builtin.Slice.sliceFields
  refine wpAny_bind (wpAny_bind (wpAny_field hos hds (x := vl) rfl (wpAny_bind (wpAny_field hos hds (x := vu) rfl (wpAny_bind (wpAny_field hos hds (x := vs) rfl (wpAny_pure ?_)))))))
  refine wpAny_bind (slicePart_ ps ?_)
  show wpAny _ _ (if ((-1 : Int) == 0) = true then _ else _) _ _ s
  rw [if_neg (by decide)]
  refine wpAny_bind (slicePart_ pl (wpAny_bind (slicePart_ pu (wpAny_bind (wpAny_pure ?_)))))
  show wpAny _ _ (match Builtin.Slice.sliceAdjust none none (-1) (n : Int) with | (lo, hi) => pure (lo, (-1 : Int), Builtin.Slice.slicePlaces lo hi (-1))) _ _ s
  have ea : Builtin.Slice.sliceAdjust none none (-1) (n : Int) = ((n : Int) - 1, -1) := by
    unfold Builtin.Slice.sliceAdjust
    simp
  rw [ea]
  show wpAny _ _ (pure ((n : Int) - 1, (-1 : Int), Builtin.Slice.slicePlaces ((n : Int) - 1) (-1) (-1))) _ _ s
  rw [places_rev]
  exact wpAny_pure h
theorem pick_rev (xs : Array Value) : ((List.range xs.size).filterMap fun (m : Nat) => xs[(((xs.size : Int) - 1) + (m : Int) * (-1)).toNat]?).toArray = xs.toList.reverse.toArray := by
  have e1 : (List.range xs.size).filterMap (fun (m : Nat) => xs[(((xs.size : Int) - 1) + (m : Int) * (-1)).toNat]?) = ((List.range xs.size).map fun m => xs.size - 1 - m).filterMap (xs[·]?) := by
    rw [List.filterMap_map]
    have : ∀ l : List Nat, (∀ m ∈ l, m < xs.size) → l.filterMap (fun (m : Nat) => xs[(((xs.size : Int) - 1) + (m : Int) * (-1)).toNat]?) = l.filterMap ((xs[·]?) ∘ fun m => xs.size - 1 - m) := by
      intro l
      induction l with
      | nil => intro _; rfl
      | cons a r ih =>
        intro h
        have ha := h a (by simp)
        have ea : (((xs.size : Int) - 1) + (a : Int) * (-1)).toNat = xs.size - 1 - a := by omega
        rw [List.filterMap_cons, List.filterMap_cons, ea, ih fun m hm => h m (by simp [hm])]
        rfl
    exact this _ fun m hm => List.mem_range.mp hm
  rw [e1, PySem.W.krv_range, List.filterMap_reverse, PySem.W.krv_all]
theorem getItem_tuple_rev {t sl : Addr} {items : Array Value} {vl vu vs : Value} {Q : Value → Shared → Prop} (ht : IsTup s.heap t items) (hs : s.heap.IsSliceOf sl vl vu vs) (pl : IsPart vl none) (pu : IsPart vu none) (ps : IsPart vs (some (-1)))
    (h : Q (.ref s.heap.objs.size) { s with heap := s.heap.push { cls := .type "tuple", data := .seq items.toList.reverse.toArray } }) (hsz : items.size ≤ sizeLine) : wpAny (model prog w) A (getItem (.ref t) (.ref sl)) Q E s := by
  have htake : sizeOk (.seq items.toList.reverse.toArray) := by
    show items.toList.reverse.toArray.size ≤ sizeLine
    rw [List.size_toArray, List.length_reverse, Array.length_toList]
    exact hsz
  obtain ⟨os, hos, hcs, hds⟩ := id hs
  have hTs : s.TypeIs (.ref sl) "slice" := ⟨os, hos, hcs⟩
  unfold getItem
  try with_reducible refine wpAny_holding ?_
  first | refine wpAny_bind (wpAny_pure ?_) | skip
  refine wpAny_bind (wpAny_sequenceKey ht.typeIs (by decide) ?_)
  refine wpAny_bind (wpAny_callSpecial?_slot (name := Str.ofString "__getitem__") ht.typeIs PyProof.Rows.slot_tuple_getitem
    (wpAny_call_entry PyProof.Rows.slot_tuple_getitem ht.typeIs entry_tuple_getitem ?_ (args_tuple_getitem _ _)))
  show wpAny _ _ (Builtin.Tuple.tupleItemsOf (.ref t) >>= _) _ _ s
  refine wpAny_bind (tupleItemsOf_ ht ?_)
  refine wpAny_bind (wpAny_typeOf hTs ?_)
  rw [if_pos (by decide)]
  refine wpAny_bind (sliceApplied_rev hs pl pu ps ?_)
  have hno : ¬ ((((items.size : Int) - 1) == 0 && (-1 : Int) == 1 && items.size == items.size) = true) := by
    intro q
    rw [Bool.and_eq_true, Bool.and_eq_true] at q
    exact absurd q.1.2 (by decide)
  show wpAny _ _ (if (((items.size : Int) - 1) == 0 && (-1 : Int) == 1 && items.size == items.size) = true then _ else _) _ _ s
  rw [if_neg hno, pick_rev]
  first
    | exact wpAny_bind (m := Builtin.Tuple.tupleExact _) (wpAny_newObj_type (wpAny_pure ⟨_, rfl, wpAny_pure h⟩) htake)
    | exact wpAny_bind (m := Builtin.Tuple.tupleExact _) (wpAny_newObj_type (wpAny_bind (wpAny_pure (wpAny_pure ⟨_, rfl, wpAny_pure h⟩))) htake)
    | exact wpAny_bind (wpAny_bind (m := Builtin.Tuple.tupleExact _) (wpAny_newObj_type (wpAny_pure (wpAny_pure ⟨_, rfl, wpAny_pure h⟩)) htake))
    | exact wpAny_bind (wpAny_bind (m := Builtin.Tuple.tupleExact _) (wpAny_newObj_type (wpAny_pure ⟨_, rfl, wpAny_pure h⟩) htake))
end
end Snd
-- SP
set_option maxHeartbeats 1000000
namespace Snd
open PySem PySem.Spec PyProof.Rows L2 HT
open PySem.SeqAt
open PySem.AutoSeq1 (wpAny_loadPart')
open PySem.MeetsSeq PySem.MeetsSeq2 PySem.MeetsSeq3
section
variable {prog : Program} {w : World} {A : Around} {E : Value → Shared → Prop} {s : Shared}
theorem idx_rev (n : Nat) : Builtin.Str.strSliceIndices none none (-1) n = (List.range n).reverse := by
  unfold Builtin.Str.strSliceIndices
  show sliceRange ((n : Int) - 1) (-1) (-1) = _
  rw [PySem.W.krv_sliceRange, PySem.W.krv_range]
theorem getStr_rev {z : Str} {t : Tok} {sl : Addr} {vl vu vs : Value} {Q : Value → Shared → Prop} (hs : s.heap.IsSliceOf sl vl vu vs) (pl : IsPart vl none) (pu : IsPart vu none) (ps : IsPart vs (some (-1))) (hz : z.length ≤ sizeLine)
    (h : ∀ t' k, Q (.str ⟨z.cps.toList.reverse.toArray⟩ t') { s with toks := k }) : wpAny (model prog w) A (getItem (.str z t) (.ref sl)) Q E s := by
  obtain ⟨os, hos, hcs, hds⟩ := hs
  obtain ⟨l, rfl, el⟩ := IsPart.raw pl
  obtain ⟨u, rfl, eu⟩ := IsPart.raw pu
  obtain ⟨c, rfl, ec⟩ := IsPart.raw ps
  refine wpAny_getItem_str_slice (l := l) (u := u) (st := c) ⟨os, hos, hcs, hds⟩ (by rw [ec]; rfl) ?_
  have e1 : ((c.map (·.1)).getD 1) = -1 := by rw [ec]; rfl
  have e2 : slicePicked z l u c = (List.range z.length).reverse := by
    unfold slicePicked
    rw [e1, el, eu]
    exact idx_rev z.length
  have e3 : ((List.range z.length).reverse.filterMap (z.cps[·]?)).toArray = z.cps.toList.reverse.toArray := by
    rw [List.filterMap_reverse]
    exact congrArg (fun l => (List.reverse l).toArray) (PySem.W.krv_all z.cps)
  unfold sliceMade
  rw [e1, e2, e3]
  have c0 : ((-1 : Int) == 1 && ((List.range z.length).reverse).length == z.length) = false := by rfl
  rw [if_neg (by rw [c0]; exact Bool.false_ne_true)]
  refine ⟨?_, h _ _⟩
  show z.cps.toList.reverse.toArray.size ≤ sizeLine
  rw [List.size_toArray, List.length_reverse, Array.length_toList]
  exact hz
end
section
variable {X : Cx}
/-- x[::-1] of a list, a tuple, a text -/
def tRevB (K : PySem.W.Frag) (te : TE) : TE := fun σ H Q => te σ H fun x H1 =>
  (∃ a xs, x = .ref a ∧ SqL K H1 a xs ∧ ∀ p, H1 p = none → Q (.ref p) (upd H1 p (.lst xs.reverse))) ∨ (∃ a xs, x = .ref a ∧ SqT K H1 a xs ∧ ∀ p, H1 p = none → Q (.ref p) (upd H1 p (.tup xs.reverse))) ∨ ∃ z, x = .str z ∧ z.length ≤ sizeLine ∧ Q (.str ⟨z.cps.toList.reverse.toArray⟩) H1
theorem pe_revB {e : Expr} {te : TE} {k : Nat} {p1 p2 p3 pos : Pos} (he : PE X e te) : PE X (.Subscript e (.Slice none none (some (.UnaryOp .USub (.Constant (.int 1) k p1) p2)) p3) pos) (tRevB X.K te) := by
  refine ⟨fun pins s σ H Q I h => ?_⟩
  refine Subscript_ (thn (he.run pins s σ H _ I h) fun v s1 ⟨x, H1, I1, r1, q1⟩ => ?_)
  have hst : PO X (some (.UnaryOp .USub (.Constant (.int 1) k p1) p2)) (tPart (tUn (rU fun i => .int (-i)) (tC (.int 1)))) := po_some (pe_un un_neg pe_int)
  rcases q1 with ⟨a, xs, ex, hx, q⟩ | ⟨a, xs, ex, hx, q⟩ | ⟨a, ex, hx, q⟩
  all_goals
    subst ex
    first | (obtain ⟨tk, rfl⟩ := r1) | cases r1
    refine wpAny_Slice (thn (po_none.run pins s1 σ H1 (fun o H2 => o = none ∧ H2 = H1) I1 ⟨rfl, rfl⟩) fun vl s2 ⟨l, H2, I2, pl, el, e2⟩ => ?_)
    subst el e2
    refine thn (po_none.run pins s2 σ H2 (fun o H3 => o = none ∧ H3 = H2) I2 ⟨rfl, rfl⟩) fun vu s3 ⟨u, H3, I3, pu, eu, e3⟩ => ?_
    subst eu e3
    refine thn (hst.run pins s3 σ H3 (fun o H4 => o = some (-1) ∧ H4 = H3) I3 ⟨1, rfl, -1, rfl, rfl, rfl⟩) fun vs s4 ⟨o, H4, I4, ps, eo, e4⟩ => ?_
    subst eo e4
    have I5 : Inv X pins σ H4 { s4 with heap := s4.heap.push { cls := .type "slice", data := .fields #[vl, vu, vs] } } := I4.kept (t' := s4.toks) fun b ob q => Heap.get?_push_of_some _ q
  · obtain ⟨its, r, ht, hz⟩ := I5.list hx
    have hlen := r.length
    show wpAny (model X.prog X.w) X.A (subscriptTail e (.Slice none none (some (.UnaryOp .USub (.Constant (.int 1) k p1) p2)) p3) (.ref a) (.ref s4.heap.objs.size)) (EP X pins σ Q) X.xe { s4 with heap := s4.heap.push { cls := .type "slice", data := .fields #[vl, vu, vs] } }
    refine tail_any (ops := [.ref a, .ref s4.heap.objs.size]) ht.isList.typeIs (PySem.slot_list_getitem.lookup) ?_ (by with_unfolding_all rfl)
    refine wpAny_getItem_list_slice ht.isList (Heap.IsSliceOf.new _ vl vu vs) pl pu ps (by decide) ?_ (by rw [List.size_toArray]; omega)
    rw [PySem.W.krv_pick]
    refine ⟨.ref _, _, I5.laid (t' := s4.toks) (o := .lst xs.reverse) (fun b ob q => Heap.get?_push_of_some _ q) (Nat.le_refl _) ?_, rfl, q _ (I5.hok.fresh (Nat.le_refl _))⟩
    exact ⟨by rw [List.length_reverse]; exact hz, _, 0, r.reverse, Heap.get?_push_size _ rfl⟩
  · obtain ⟨its, r, ht, hz⟩ := I5.tuple hx
    have hlen := r.length
    show wpAny (model X.prog X.w) X.A (subscriptTail e (.Slice none none (some (.UnaryOp .USub (.Constant (.int 1) k p1) p2)) p3) (.ref a) (.ref s4.heap.objs.size)) (EP X pins σ Q) X.xe { s4 with heap := s4.heap.push { cls := .type "slice", data := .fields #[vl, vu, vs] } }
    refine tail_any (ops := [.ref a, .ref s4.heap.objs.size]) ht.typeIs (PyProof.Rows.slot_tuple_getitem.lookup) ?_ (by with_unfolding_all rfl)
    refine getItem_tuple_rev ht (Heap.IsSliceOf.new _ vl vu vs) pl pu ps ?_ (by rw [List.size_toArray]; omega)
    refine ⟨.ref _, _, I5.laid (t' := s4.toks) (o := .tup xs.reverse) (fun b ob q => Heap.get?_push_of_some _ q) (Nat.le_refl _) ?_, rfl, q _ (I5.hok.fresh (Nat.le_refl _))⟩
    exact ⟨by rw [List.length_reverse]; exact hz, _, r.reverse, IsTup.new _ _⟩
  · refine tail_any (ops := [.ref s4.heap.objs.size]) (typeIs_str _ _ _) (F.slot_str_getitem.lookup) ?_ (by with_unfolding_all rfl)
    exact getStr_rev (Heap.IsSliceOf.new _ vl vu vs) pl pu ps hx fun t' k => ⟨.str _, H4, I5.tok _, ⟨_, rfl⟩, q⟩
end
end Snd
-- SW
set_option maxHeartbeats 4000000
namespace Snd
open PySem PySem.Spec PyProof.Rows L2
/-- sorted(xs), xs a list of pairs of ints, the pairs of any kind -/
def rSortedPT (K : PySem.W.Frag) : List V → Hp → VK → Prop := fun vs H Q => ∃ (a : Addr) (xs : List V) (k : V → Int × Int), vs = [V.ref a] ∧ SqL K H a xs ∧ (∀ x ∈ xs, ∃ t, x = V.ref t ∧ SqT K H t [.int (k x).1, .int (k x).2]) ∧
  ∀ ys p, SrtO.Srtd (ltP k) ys → SrtO.Stb (ltP k) ys xs → H p = none → Q (.ref p) (upd H p (.lst ys))
theorem cr_sortedPT {X : Cx} : CallR X (.builtin "sorted") (rSortedPT X.K) := by
  intro pins s σ H vs us Q I r h
  obtain ⟨a, xs, k, rfl, hs, hx, q⟩ := h
  obtain ⟨its, rv, hl, hz⟩ := I.list hs
  obtain ⟨u, rfl, ru⟩ := vals1 r
  obtain rfl : u = Value.ref a := ru
  obtain ⟨e1, e2⟩ := refs_back rv fun x m => by
    obtain ⟨t, e, _⟩ := hx x m
    exact ⟨t, e⟩
  refine SrtO.sorted_pairsO (k := fun u => k (backV u)) hl.isList (by rw [← rv.length]; exact hz) (fun v hv => ?_) fun h' d out h1 h2 kp hd hn => ?_
  · obtain ⟨t, rfl⟩ := e2 v hv
    have hm : V.ref t ∈ xs := by rw [e1]; exact List.mem_map.mpr ⟨_, hv, rfl⟩
    obtain ⟨t', e, ht⟩ := hx _ hm
    cases e
    obtain ⟨its2, r2, ⟨o, ho, hc, n, hd⟩, _⟩ := I.tuple ht
    obtain ⟨u1, u2, rfl, ri, rj⟩ := vals2 r2
    obtain ⟨t1, rfl⟩ := ri
    obtain ⟨t2, rfl⟩ := rj
    exact ⟨t, o, t1, t2, n, rfl, ho, hc, hd⟩
  · have h3 : ∀ u ∈ out, ∃ a, u = Value.ref a := fun u hu => e2 u (h2.perm.mem_iff.mp hu)
    obtain ⟨n, hn⟩ := hn
    have hb : SrtO.Stb (ltP k) (out.map backV) xs := by
      rw [e1]
      exact SrtO.Stb.map (ltP_swo k) backV h2
    refine ⟨.ref d, upd H d (.lst (out.map backV)), I.laid (t' := s.toks) kp hd ⟨?_, out, n, vals_back h3, hn⟩, rfl, q _ d (SrtO.srtd_map h1) hb (I.hok.fresh hd)⟩
    rw [hb.len]
    exact hz
end Snd
-- S2
namespace Snd
open PySem L2 Mi

/-- an operation's own want -/
def rSem (X : Cx) (f : Value → Value → Sem Value) : R2 := fun x y H Q => ∀ (pins : List (Addr × Obj)) (s : Shared) (σ : HS) (u1 u2 : Value), Inv X pins σ H s → RelV x u1 → RelV y u2 →
  wpAny (model X.prog X.w) X.A (f u1 u2) (EP X pins σ Q) X.xe s
theorem rSem_ok {X : Cx} {f : Value → Value → Sem Value} : OpR X f (rSem X f) := fun pins s σ _ _ _ _ _ _ I r1 r2 h => h pins s σ _ _ I r1 r2
theorem rSem_of {X : Cx} {f : Value → Value → Sem Value} {r : R2} (ho : OpR X f r) {x y : V} {H : Hp} {Q : VK} (h : r x y H Q) : rSem X f x y H Q := fun pins s σ u1 u2 I r1 r2 => ho pins s σ H x y u1 u2 Q I r1 r2 h
theorem rSem.mono {X : Cx} {f : Value → Value → Sem Value} {x y : V} {H : Hp} {Q Q' : VK} (h : rSem X f x y H Q) (hq : ∀ v H', Q v H' → Q' v H') : rSem X f x y H Q' := fun pins s σ u1 u2 I r1 r2 =>
  thn (h pins s σ u1 u2 I r1 r2) fun _ _ ⟨v, H', I', r, q⟩ => ⟨v, H', I', r, hq _ _ q⟩

def bop : BOp → Operator
  | .add => .Add | .sub => .Sub | .mul => .Mult | .fdiv => .FloorDiv | .mod => .Mod | .pow => .Pow

section
variable {K : PySem.W.Frag} {cl : Kl} {g : Mu} {I F H : Hp} {st : Sto}
theorem rep_int {i : Int} {v : V} (r : RepV K g I (.int i) v) : v = .int i := r
theorem rep_str {s : Tx} {v : V} (r : RepV K g I (.str s) v) : v = .str ⟨s.toArray⟩ := r
theorem big_eq : big = sizeLine := by rw [sizeLine_eq]; rfl
theorem len_arr (s : Tx) : (⟨s.toArray⟩ : Str).length = s.length := by simp [Str.length]
theorem app_arr (a b : Tx) : (⟨a.toArray⟩ : Str) ++ ⟨b.toArray⟩ = ⟨(a ++ b).toArray⟩ := by
  show Str.append _ _ = _
  simp [Str.append]
/-- a new list of the store -/
theorem new_list {Q : Post} {mx : List MV} {vs : List V} (S : Sim K cl g I F H st) (r : RepVs K g I mx vs) (q : Q (.ref st.length) (st ++ [.lst mx])) {p : Addr} (hn : H p = none) : QV K cl g I F Q (.ref p) (upd H p (.lst vs)) := by
  refine ⟨gAdd g st.length p, I, .ref st.length, _, gAdd_le S.no, LeH.refl _, S.new (mo := .lst mx) hn ⟨vs, upd_same, r.mono (gAdd_le S.no) (LeH.refl _)⟩, ⟨p, ?_, rfl⟩, q⟩
  unfold gAdd; rw [if_pos rfl]
/-- a new tuple -/
theorem new_tup {Q : Post} {mx : List MV} {vs : List V} (S : Sim K cl g I F H st) (r : RepVs K g I mx vs) (q : Q (.tup mx) st) {p : Addr} (hn : H p = none) : QV K cl g I F Q (.ref p) (upd H p (.tup vs)) := by
  refine ⟨g, upd I p (.tup vs), .tup mx, st, LeM.refl _, fresh_le S.ih hn, S.frozen hn, ⟨p, vs, rfl, SqT.of upd_same, r.mono (LeM.refl _) (fresh_le S.ih hn)⟩, q⟩

theorem bits_lt {x : Int} {n : Nat} (h : x.natAbs < 2 ^ n) : Builtin.Int.intBits x ≤ n + 1 := by
  unfold Builtin.Int.intBits
  split
  · omega
  · rename_i c
    have h1 : x.natAbs.log2 < n + 1 := by
      by_cases h0 : n = 0
      · subst h0
        have : x.natAbs = 0 := by omega
        rw [this]; decide
      · exact Nat.lt_succ_of_lt (PySem.Flt.log2_lt_of (by omega) h)
    omega
theorem op_powB {X : Cx} : OpR X (binaryOp .Pow) (rI (fun i j => 0 ≤ j ∧ j ≤ 1000 ∧ i.natAbs < 2 ^ 5000) fun i j => .int (i ^ j.toNat)) := opI fun i j _ _ _ _ _ hc q => by
  obtain ⟨h0, h1, h2⟩ := hc
  refine PyProof.Rows.pow_int h0 ?_ q
  have hb := bits_lt h2
  have h3 : (Builtin.Int.intBits i : Int) ≤ 5001 := by omega
  have h4 : (Builtin.Int.intBits i : Int) * j ≤ 5001 * 1000 := Int.le_trans (Int.mul_le_mul_of_nonneg_right h3 h0) (Int.mul_le_mul_of_nonneg_left h1 (by decide))
  exact Int.le_trans h4 (by decide)
theorem bin_ok {X : Cx} (o : BOp) {x y : MV} {v w : V} {Q : Post} (S : Sim X.K cl g I F H st) (rx : RepV X.K g I x v) (ry : RepV X.K g I y w) (h : opBin o x y st Q) :
    rSem X (binaryOp (bop o)) v w H (QV X.K cl g I F Q) := by
  cases x <;> cases y <;> cases o <;> first | (exact h.elim) | skip
  case int.int.add i j => cases rx; cases ry; exact rSem_of op_add ⟨i, j, rfl, rfl, QV.int S h⟩
  case int.int.sub i j => cases rx; cases ry; exact rSem_of op_sub ⟨i, j, rfl, rfl, QV.int S h⟩
  case int.int.mul i j =>
    cases rx; cases ry
    obtain ⟨h1, h2⟩ := h
    rcases h1 with h1 | h1 | ⟨h1, h3⟩
    · exact rSem_of op_mul ⟨i, j, rfl, rfl, .inl (by omega), QV.int S h2⟩
    · exact rSem_of op_mul ⟨i, j, rfl, rfl, .inr (by omega), QV.int S h2⟩
    · exact rSem_of op_mulW ⟨i, j, rfl, rfl, wide_mul h1 h3 (by decide) (by decide) (by decide), QV.int S h2⟩
  case int.int.fdiv i j =>
    cases rx; cases ry
    obtain ⟨h1, h2, h3⟩ := h
    exact rSem_of op_fdiv ⟨i, j, rfl, rfl, ⟨h1, h2⟩, QV.int S h3⟩
  case int.int.mod i j =>
    cases rx; cases ry
    obtain ⟨h1, h3⟩ := h
    exact rSem_of op_mod ⟨i, j, rfl, rfl, h1, QV.int S h3⟩
  case int.int.pow i j =>
    cases rx; cases ry
    obtain ⟨h1, h2, h4, h3⟩ := h
    exact rSem_of op_powB ⟨i, j, rfl, rfl, ⟨h1, h2, h4⟩, QV.int S h3⟩
  case str.str.add a b =>
    cases rx; cases ry
    obtain ⟨h1, h3⟩ := h
    refine rSem_of op_add_str ⟨_, _, rfl, rfl, by rw [len_arr, len_arr, ← big_eq]; exact h1, ?_⟩
    rw [app_arr]
    exact QV.str S h3
  case tup.tup.add a b =>
    obtain ⟨p, vs, rfl, h1, r1⟩ := rx
    obtain ⟨q, ws, rfl, h2, r2⟩ := ry
    obtain ⟨hl, h3⟩ := h
    have e1 := r1.len
    have e2 := r2.len
    refine rSem_of op_catA ⟨p, q, vs, ws, rfl, rfl, S.ih.tup h1, S.ih.tup h2, by rw [e1, e2, ← big_eq]; exact hl, fun e => ?_, fun _ e => ?_, fun _ _ p' hn => ?_⟩
    · subst e
      have e3 : a = [] := List.length_eq_zero_iff.mp (by rw [← e1]; rfl)
      subst e3
      exact QV.tup S h2 r2 h3
    · subst e
      have e3 : b = [] := List.length_eq_zero_iff.mp (by rw [← e2]; rfl)
      subst e3
      rw [List.append_nil] at h3
      exact QV.tup S h1 r1 h3
    · exact new_tup S (r1.app r2) h3 hn
  case ref.ref.add a b =>
    obtain ⟨p, hp, rfl⟩ := rx
    obtain ⟨q, hq, rfl⟩ := ry
    obtain ⟨xs, ys, h1, h2, hl, h3⟩ := h
    obtain ⟨vs, e1, r1⟩ := S.at_ hp h1
    obtain ⟨ws, e2, r2⟩ := S.at_ hq h2
    exact rSem_of op_cat ⟨p, q, vs, ws, rfl, rfl, e1, e2, by rw [r1.len, r2.len, ← big_eq]; exact hl, fun p' hn => new_list S (r1.app r2) h3 hn⟩
  case tup.int.mul a k =>
    obtain ⟨p, vs, rfl, h1, r1⟩ := rx
    cases ry
    obtain ⟨k1, k2, hne, hl, h3⟩ := h
    have rr : ∀ n : Nat, RepVs X.K g I (List.replicate n a).flatten (List.replicate n vs).flatten := fun n => by
      induction n with
      | zero => exact rfl
      | succ n ih => simp only [List.replicate_succ, List.flatten_cons]; exact r1.app ih
    by_cases e : k = 1
    · subst e
      exact rSem_of op_repT1 ⟨p, vs, rfl, rfl, S.ih.tup h1, QV.tup S h1 r1 (by simpa using h3)⟩
    · exact rSem_of op_repT ⟨p, k, vs, rfl, rfl, S.ih.tup h1, fun z => hne (List.length_eq_zero_iff.mp (by rw [← r1.len, z]; rfl)), by omega, k2, by rw [r1.len]; exact hl, fun p' hn => new_tup S (rr _) h3 hn⟩
  case ref.int.mul a k =>
    obtain ⟨p, hp, rfl⟩ := rx
    cases ry
    obtain ⟨xs, h1, h0, h63, hl, h3⟩ := h
    obtain ⟨vs, e1, r1⟩ := S.at_ hp h1
    have rr : ∀ n : Nat, RepVs X.K g I (List.replicate n xs).flatten (List.replicate n vs).flatten := fun n => by
      induction n with
      | zero => exact rfl
      | succ n ih => simp only [List.replicate_succ, List.flatten_cons]; exact r1.app ih
    exact rSem_of op_rep ⟨p, k, vs, rfl, rfl, e1, by omega, h63, by rw [r1.len, ← big_eq]; exact hl, fun p' hn => new_list S (rr _) h3 hn⟩
end
end Snd
-- S3
namespace Snd
open PySem L2 Mi

mutual
def pyD : PD → PyData
  | .non => .none
  | .bl b => .bool b
  | .int i => .int i
  | .str s => .str ⟨s.toArray⟩
  | .lst xs => .list (pyDs xs)
  | .tup xs => .tuple (pyDs xs)
  | .dic kvs => .dict (pyDk kvs)
def pyDs : List PD → List PyData
  | [] => []
  | x :: xs => pyD x :: pyDs xs
def pyDk : List (PD × PD) → List (PyData × PyData)
  | [] => []
  | (k, v) :: xs => (pyD k, pyD v) :: pyDk xs
end
theorem pyDs_map : ∀ xs : List PD, pyDs xs = xs.map pyD
  | [] => rfl
  | x :: xs => by rw [pyDs, pyDs_map xs]; rfl
theorem str_beq (a b : Tx) : ((⟨a.toArray⟩ : Str) == ⟨b.toArray⟩) = (a == b) := by
  by_cases h : a = b
  · subst h; simp
  · rw [beq_eq_false_iff_ne.mpr h]
    refine beq_eq_false_iff_ne.mpr fun e => h ?_
    injection e with e
    simpa using e
mutual
theorem eqv_py : ∀ d e : PD, d.nodic = true → e.nodic = true → PyData.eqv (pyD d) (pyD e) = PD.eqv d e
  | .non, e, _, h => by cases e <;> first | (simp [PD.nodic] at h; done) | simp [pyD, PyData.eqv, PD.eqv]
  | .bl _, e, _, h => by cases e <;> first | (simp [PD.nodic] at h; done) | simp [pyD, PyData.eqv, PD.eqv]
  | .int _, e, _, h => by cases e <;> first | (simp [PD.nodic] at h; done) | simp [pyD, PyData.eqv, PD.eqv]
  | .str s, e, _, h => by
    cases e <;> first | (simp [PD.nodic] at h; done) | (simp only [pyD, PyData.eqv, PD.eqv]; done) | skip
    simp only [pyD, PyData.eqv, PD.eqv]
    exact str_beq _ _
  | .lst xs, e, h', h => by
    cases e <;> first | (simp [PD.nodic] at h; done) | (simp only [pyD, PyData.eqv, PD.eqv]; done) | skip
    simp only [pyD, PyData.eqv, PD.eqv]
    exact eqv_pys _ _ (by simpa [PD.nodic] using h') (by simpa [PD.nodic] using h)
  | .tup xs, e, h', h => by
    cases e <;> first | (simp [PD.nodic] at h; done) | (simp only [pyD, PyData.eqv, PD.eqv]; done) | skip
    simp only [pyD, PyData.eqv, PD.eqv]
    exact eqv_pys _ _ (by simpa [PD.nodic] using h') (by simpa [PD.nodic] using h)
  | .dic _, _, h, _ => by simp [PD.nodic] at h
theorem eqv_pys : ∀ d e : List PD, PD.nodicAll d = true → PD.nodicAll e = true → PyData.eqvAll (pyDs d) (pyDs e) = PD.eqvAll d e
  | [], [], _, _ => by simp [pyDs, PyData.eqvAll, PD.eqvAll]
  | [], _ :: _, _, _ => by simp [pyDs, PyData.eqvAll, PD.eqvAll]
  | _ :: _, [], _, _ => by simp [pyDs, PyData.eqvAll, PD.eqvAll]
  | x :: xs, y :: ys, h, h' => by
    simp only [PD.nodicAll, Bool.and_eq_true] at h h'
    simp only [pyDs, PyData.eqvAll, PD.eqvAll]
    rw [eqv_py x y h.1 h'.1, eqv_pys xs ys h.2 h'.2]
end
mutual
theorem fine_nodic : ∀ d : PD, d.fine = true → d.nodic = true
  | .non, _ => rfl
  | .bl _, _ => rfl
  | .int _, _ => rfl
  | .str _, _ => rfl
  | .lst xs, h => by simp only [PD.nodic]; exact fine_nodics xs (by simpa [PD.fine] using h)
  | .tup xs, h => by simp only [PD.nodic]; exact fine_nodics xs (by simpa [PD.fine] using h)
  | .dic _, h => by simp [PD.fine] at h
theorem fine_nodics : ∀ d : List PD, PD.fineAll d = true → PD.nodicAll d = true
  | [], _ => by simp [PD.nodicAll]
  | x :: xs, h => by
    simp only [PD.fineAll, Bool.and_eq_true] at h
    simp only [PD.nodicAll, Bool.and_eq_true]
    exact ⟨fine_nodic x h.1, fine_nodics xs h.2⟩
end
mutual
theorem fine_lay : ∀ d : PD, d.fine = true → (pyD d).canLay0 = true
  | .non, _ => by simp [pyD, PyData.canLay0]
  | .bl _, _ => by simp [pyD, PyData.canLay0]
  | .int _, _ => by simp [pyD, PyData.canLay0]
  | .str s, h => by
    simp only [pyD, PyData.canLay0, PyData.strOk]
    simpa [PD.fine] using h
  | .lst xs, h => by simp only [pyD, PyData.canLay0]; exact fine_lays xs (by simpa [PD.fine] using h)
  | .tup xs, h => by simp only [pyD, PyData.canLay0]; exact fine_lays xs (by simpa [PD.fine] using h)
  | .dic _, h => by simp [PD.fine] at h
theorem fine_lays : ∀ d : List PD, PD.fineAll d = true → PyData.canLayAll0 (pyDs d) = true
  | [], _ => by simp [pyDs, PyData.canLayAll0]
  | x :: xs, h => by
    simp only [PD.fineAll, Bool.and_eq_true] at h
    simp only [pyDs, PyData.canLayAll0, Bool.and_eq_true]
    exact ⟨fine_lay x h.1, fine_lays xs h.2⟩
end
theorem mapM_some {α β : Type} {f : α → Option β} : ∀ {xs : List α} {ys : List β}, xs.mapM f = some ys → ys.length = xs.length ∧ ∀ (i : Nat) (x : α), xs[i]? = some x → ∃ y, ys[i]? = some y ∧ f x = some y
  | [], ys, h => by
    simp at h; subst h; exact ⟨rfl, fun i x e => by simp at e⟩
  | x :: xs, ys, h => by
    rw [List.mapM_cons] at h
    cases e1 : f x with
    | none => rw [e1] at h; cases h
    | some y =>
      rw [e1] at h
      cases e2 : xs.mapM f with
      | none => rw [e2] at h; cases h
      | some r =>
        rw [e2] at h
        cases h
        obtain ⟨h1, h2⟩ := mapM_some e2
        refine ⟨by simp [h1], fun i z e => ?_⟩
        cases i with
        | zero => simp at e; subst e; exact ⟨y, rfl, e1⟩
        | succ i => simp at e; obtain ⟨w, a, b⟩ := h2 i z e; exact ⟨w, by simpa using a, b⟩
theorem mapM_cons_some {α β : Type} {f : α → Option β} {x : α} {xs : List α} {ys : List β} (h : (x :: xs).mapM f = some ys) : ∃ y r, f x = some y ∧ xs.mapM f = some r ∧ ys = y :: r := by
  rw [List.mapM_cons] at h
  cases e1 : f x with
  | none => rw [e1] at h; cases h
  | some y =>
    rw [e1] at h
    cases e2 : xs.mapM f with
    | none => rw [e2] at h; cases h
    | some r => rw [e2] at h; cases h; exact ⟨y, r, rfl, rfl, rfl⟩
theorem nodic_mem {ds : List PD} (h : PD.nodicAll ds = true) : ∀ d ∈ ds, d.nodic = true := by
  induction ds with
  | nil => intro d hd; cases hd
  | cons x xs ih =>
    simp only [PD.nodicAll, Bool.and_eq_true] at h
    intro d hd
    rcases List.mem_cons.mp hd with rfl | hd
    · exact h.1
    · exact ih h.2 d hd
theorem depthAll_le {n : Nat} : ∀ {ds : List PD}, (∀ d ∈ ds, (pyD d).depth ≤ n) → PyData.depthAll (pyDs ds) ≤ n
  | [], _ => by simp [pyDs, PyData.depthAll]
  | d :: ds, h => by
    have a := h d List.mem_cons_self
    have b := depthAll_le fun d hd => h d (List.mem_cons_of_mem _ hd)
    simp only [pyDs, PyData.depthAll]
    omega
theorem mapM_mem {α β : Type} {f : α → Option β} {xs : List α} {ys : List β} (h : xs.mapM f = some ys) : ∀ y ∈ ys, ∃ x ∈ xs, f x = some y := by
  intro y hy
  obtain ⟨i, hi, e⟩ := List.getElem_of_mem hy
  obtain ⟨h1, h2⟩ := mapM_some h
  obtain ⟨y', a, b⟩ := h2 i xs[i] (List.getElem?_eq_getElem (by omega))
  rw [List.getElem?_eq_getElem hi, e] at a
  cases a
  exact ⟨_, List.getElem_mem _, b⟩
theorem depth_le : ∀ (n : Nat) (st : Sto) (x : MV) (d : PD), d.nodic = true → toPD n st x = some d → (pyD d).depth ≤ n := by
  intro n
  induction n with
  | zero => intro st x d _ h; simp [toPD] at h
  | succ n ih =>
    intro st x d hd h
    have key : ∀ {xs : List MV} {ds : List PD}, PD.nodicAll ds = true → xs.mapM (toPD n st) = some ds → PyData.depthAll (pyDs ds) + 1 ≤ n + 1 := fun {xs ds} h1 h2 =>
      Nat.succ_le_succ (depthAll_le fun d hd => by
        obtain ⟨x, _, e⟩ := mapM_mem h2 d hd
        exact ih st x d (nodic_mem h1 d hd) e)
    cases x with
    | non => simp [toPD] at h; subst h; simp [pyD, PyData.depth]
    | bl b => simp [toPD] at h; subst h; simp [pyD, PyData.depth]
    | int b => simp [toPD] at h; subst h; simp [pyD, PyData.depth]
    | str b => simp [toPD] at h; subst h; simp [pyD, PyData.depth]
    | tup xs =>
      simp only [toPD, Option.map_eq_some_iff] at h
      obtain ⟨ds, h1, rfl⟩ := h
      simp only [pyD, PyData.depth]
      exact key (by simpa [PD.nodic] using hd) h1
    | lsv xs =>
      simp only [toPD, Option.map_eq_some_iff] at h
      obtain ⟨ds, h1, rfl⟩ := h
      simp only [pyD, PyData.depth]
      exact key (by simpa [PD.nodic] using hd) h1
    | ref a =>
      simp only [toPD] at h
      split at h
      · simp only [Option.map_eq_some_iff] at h
        obtain ⟨ds, h1, rfl⟩ := h
        simp only [pyD, PyData.depth]
        exact key (by simpa [PD.nodic] using hd) h1
      · simp only [Option.map_eq_some_iff] at h
        obtain ⟨ds, h1, rfl⟩ := h
        simp [PD.nodic] at hd
      · cases h

section
variable {K : PySem.W.Frag} {cl : Kl} {g : Mu} {I F H : Hp} {st : Sto}
theorem dp_all {f : MV → Option PD} (ih : ∀ (x : MV) (d : PD) (v : V), d.nodic = true → f x = some d → RepV K g I x v → Dp K H v (pyD d)) :
    ∀ {xs : List MV} {ds : List PD} {vs : List V}, PD.nodicAll ds = true → xs.mapM f = some ds → RepVs K g I xs vs → DpAll K H vs (pyDs ds)
  | [], ds, vs, _, h, r => by
    simp at h; subst h
    have r : vs = [] := r
    subst r
    exact .nil
  | x :: xs, ds, vs, hn, h, ⟨v, r, h1, h2, h3⟩ => by
    obtain ⟨y, q, e1, e2, rfl⟩ := mapM_cons_some h
    subst h1
    simp only [PD.nodicAll, Bool.and_eq_true] at hn
    exact .cons (ih x y v hn.1 e1 h2) (dp_all ih hn.2 e2 h3)
theorem dp_of (S : Sim K cl g I F H st) : ∀ (n : Nat) (x : MV) (d : PD) (v : V), d.nodic = true → toPD n st x = some d → RepV K g I x v → Dp K H v (pyD d) := by
  intro n
  induction n with
  | zero => intro x d v _ h; simp [toPD] at h
  | succ n ih =>
    intro x d v hd h r
    cases x with
    | non => simp [toPD] at h; subst h; cases r; exact .non
    | bl b => simp [toPD] at h; subst h; cases r; exact .bl b
    | int b => simp [toPD] at h; subst h; cases r; exact .int b
    | str b => simp [toPD] at h; subst h; cases r; exact .str _
    | tup xs =>
      simp only [toPD, Option.map_eq_some_iff] at h
      obtain ⟨ds, h1, rfl⟩ := h
      obtain ⟨p, vs, rfl, h2, h3⟩ := r
      exact .tup (S.ih.tup h2) (dp_all ih (by simpa [PD.nodic] using hd) h1 h3)
    | lsv xs =>
      simp only [toPD, Option.map_eq_some_iff] at h
      obtain ⟨ds, h1, rfl⟩ := h
      obtain ⟨p, vs, rfl, h2, h3⟩ := r
      exact .lst (S.ih.lst h2) (dp_all ih (by simpa [PD.nodic] using hd) h1 h3)
    | ref a =>
      obtain ⟨p, hp, rfl⟩ := r
      simp only [toPD] at h
      split at h
      · rename_i xs hs
        simp only [Option.map_eq_some_iff] at h
        obtain ⟨ds, h1, rfl⟩ := h
        obtain ⟨vs, e1, r1⟩ := S.at_ hp hs
        exact .lst (SqL.of e1) (dp_all ih (by simpa [PD.nodic] using hd) h1 r1)
      · simp only [Option.map_eq_some_iff] at h
        obtain ⟨ds, h1, rfl⟩ := h
        simp [PD.nodic] at hd
      · cases h
theorem shaped_of {n : Nat} {x : MV} {d : PD} (hn : n ≤ 64) (hf : d.fine = true) (h : toPD n st x = some d) : SeqAt.shaped (pyD d) = true := by
  unfold SeqAt.shaped
  rw [Bool.and_eq_true]
  exact ⟨fine_lay d hf, decide_eq_true (Nat.le_trans (depth_le n st x d (fine_nodic d hf) h) hn)⟩
/-- a scalar's data -/
def scD : MV → PD
  | .non => .non
  | .bl b => .bl b
  | .int i => .int i
  | .str s => .str s
  | _ => .non
theorem scalar_pd {n : Nat} {x : MV} {d : PD} (hs : scalar x = true) (h : toPD (n + 1) st x = some d) : d = scD x := by
  cases x <;> first | (simp [scalar] at hs; done) | (simp [toPD] at h; exact h.symm)
theorem scalar_mapM {n : Nat} : ∀ {ys : List MV} {ds : List PD}, ys.all scalar = true → ys.mapM (toPD (n + 1) st) = some ds → ds = ys.map scD
  | [], ds, _, h => by simp at h; exact h
  | y :: ys, ds, ha, h => by
    obtain ⟨d, r, h1, h2, rfl⟩ := mapM_cons_some h
    simp only [List.all_cons, Bool.and_eq_true] at ha
    rw [scalar_pd ha.1 h1, scalar_mapM ha.2 h2]
    rfl
def scV : MV → V
  | .non => .non
  | .bl b => .bl b
  | .int i => .int i
  | .str s => .str ⟨s.toArray⟩
  | _ => .non
theorem scalar_v {x : MV} {v : V} (hs : scalar x = true) (r : RepV K g I x v) : v = scV x := by
  cases x <;> first | (simp [scalar] at hs; done) | exact r
theorem scalar_vs {ys : List MV} {vs : List V} (hs : ys.all scalar = true) (r : RepVs K g I ys vs) : vs = ys.map scV := by
  induction ys generalizing vs with
  | nil => exact r
  | cons y ys ih =>
    obtain ⟨v, q, rfl, h2, h3⟩ := r
    simp only [List.all_cons, Bool.and_eq_true] at hs
    rw [scalar_v hs.1 h2, ih hs.2 h3]
    rfl
theorem eqV_sc {x y : MV} (hx : scalar x = true) (hy : scalar y = true) : eqV (scV x) (scV y) = PD.eqv (scD x) (scD y) := by
  cases x <;> cases y <;> first | (simp [scalar] at hx; done) | (simp [scalar] at hy; done) | (simp only [scV, scD, eqV, PD.eqv]; done) | (simp [scV, scD, eqV, PD.eqv]; done) | (simp only [scV, scD, eqV, PD.eqv]; exact str_beq _ _)
theorem flat_sc (x : MV) : flatV (scV x) = true := by cases x <;> rfl
theorem dec_str (a b : Tx) : decide ((V.str ⟨a.toArray⟩) = V.str ⟨b.toArray⟩) = (a == b) := by
  by_cases h : a = b
  · subst h; simp
  · rw [beq_eq_false_iff_ne.mpr h]
    refine decide_eq_false fun e => h ?_
    injection e with e
    injection e with e
    simpa using e
theorem dec_sc {x y : MV} (h : scal2 x y = true) : scal (scV x) (scV y) = true ∧ decide (scV x = scV y) = PD.eqv (scD x) (scD y) := by
  cases x <;> cases y <;> first | (simp [scal2, scalar] at h; done) | (simp [scV, scD, scal, PD.eqv]; done) | skip
  case bl.bl a b => refine ⟨rfl, ?_⟩; cases a <;> cases b <;> simp [scV, scD, PD.eqv]
  case int.int a b =>
    refine ⟨rfl, ?_⟩
    simp only [scV, scD, PD.eqv]
    by_cases e : a = b
    · subst e; simp
    · rw [beq_eq_false_iff_ne.mpr e]; exact decide_eq_false fun z => e (V.int.inj z)
  case str.str a b => exact ⟨rfl, by simp only [scV, scD, PD.eqv]; exact dec_str a b⟩
end
end Snd
-- S4
namespace Snd
open PySem L2 Mi

def cop : COp → CmpOp
  | .eq => .Eq | .ne => .NotEq | .lt => .Lt | .le => .LtE | .gt => .Gt | .ge => .GtE | .isN => .Is | .notN => .IsNot | .inn => .In | .nin => .NotIn

section
variable {K : PySem.W.Frag} {cl : Kl} {g : Mu} {I F H : Hp} {st : Sto}
theorem keyV_of {x : MV} {v : V} (hk : isKey x = true) (r : RepV K g I x v) : ∃ k, keyV x = some k ∧ v = kV k := by
  cases x <;> first | (simp [isKey] at hk; done) | skip
  case int i => exact ⟨.inl i, rfl, r⟩
  case str s => exact ⟨.inr ⟨s.toArray⟩, rfl, r⟩
theorem keyEq_iff {x y : MV} {k k' : Key} (h : keyV x = some k) (h' : keyV y = some k') : keyEq x y = decide (k = k') := by
  cases x <;> cases y <;> simp [keyV] at h h' <;> subst h <;> subst h'
  case int.int i j =>
    by_cases e : i = j
    · subst e; simp [keyEq]
    · simp [keyEq, e]
  case int.str i s => simp [keyEq]
  case str.int s i => simp [keyEq]
  case str.str s t =>
    by_cases e : s = t
    · subst e; simp [keyEq]
    · simp [keyEq, e]
end
section
variable {K : PySem.W.Frag} {cl : Kl} {g : Mu} {I F H : Hp} {st : Sto}
theorem RepKV.look {kvs : List (MV × MV)} {ws : List (Key × V)} (r : RepKV K g I kvs ws) {k : MV} {k' : Key} (hk : keyV k = some k') :
    (∀ x, kLook k kvs = some x → ∃ v, valV ws k' = some v ∧ RepV K g I x v) ∧ (kLook k kvs = none → valV ws k' = none) := by
  induction r with
  | nil => exact ⟨fun x h => by simp [kLook] at h, fun _ => rfl⟩
  | @cons a x a' v r r' h1 h2 _ ih =>
    have e := keyEq_iff h1 hk
    by_cases c : a' = k'
    · rw [decide_eq_true c] at e
      simp only [kLook, e, if_true]
      exact ⟨fun y hy => by cases hy; exact ⟨v, valV_pos c, h2⟩, fun z => by cases z⟩
    · rw [decide_eq_false c] at e
      simp only [kLook, e, Bool.false_eq_true, if_false]
      rw [valV_neg (p := (a', v)) c]
      exact ih
theorem RepKV.isSome {kvs : List (MV × MV)} {ws : List (Key × V)} (r : RepKV K g I kvs ws) {k : MV} {k' : Key} (hk : keyV k = some k') : (valV ws k').isSome = (kLook k kvs).isSome := by
  obtain ⟨h1, h2⟩ := r.look hk
  cases e : kLook k kvs with
  | none => rw [h2 e]; rfl
  | some x => obtain ⟨v, hv, _⟩ := h1 x e; rw [hv]; rfl
theorem RepKV.len {kvs : List (MV × MV)} {ws : List (Key × V)} (r : RepKV K g I kvs ws) : ws.length = kvs.length := by
  induction r with
  | nil => rfl
  | cons _ _ _ ih => simp [ih]
theorem RepKV.any {kvs : List (MV × MV)} {ws : List (Key × V)} (r : RepKV K g I kvs ws) {k : MV} {k' : Key} (hk : keyV k = some k') : (ws.any fun kv => decide (kv.1 = k')) = kvs.any fun p => keyEq p.1 k := by
  induction r with
  | nil => rfl
  | cons h1 _ _ ih => simp only [List.any_cons, ih, keyEq_iff h1 hk]
theorem RepKV.mapP {kvs : List (MV × MV)} {ws : List (Key × V)} (r : RepKV K g I kvs ws) {k y : MV} {k' : Key} {v : V} (hk : keyV k = some k') (hv : RepV K g I y v) :
    RepKV K g I (kvs.map fun p => if keyEq p.1 k then (p.1, y) else p) (ws.map fun kv => if kv.1 = k' then (kv.1, v) else kv) := by
  induction r with
  | nil => exact .nil
  | @cons a x a' w r r' h1 h2 _ ih =>
    simp only [List.map_cons, keyEq_iff h1 hk]
    by_cases c : a' = k'
    · simp only [c, decide_true, if_true]
      exact .cons (by rw [← c]; exact h1) hv ih
    · simp only [c, decide_false, Bool.false_eq_true, if_false]
      exact .cons h1 h2 ih
theorem RepKV.app {a c : List (MV × MV)} {b d : List (Key × V)} (r : RepKV K g I a b) (q : RepKV K g I c d) : RepKV K g I (a ++ c) (b ++ d) := by
  induction r with
  | nil => exact q
  | cons h1 h2 _ ih => exact .cons h1 h2 ih
theorem RepKV.put {kvs : List (MV × MV)} {ws : List (Key × V)} (r : RepKV K g I kvs ws) {k y : MV} {k' : Key} {v : V} (hk : keyV k = some k') (hv : RepV K g I y v) : RepKV K g I (kPut k y kvs) (putK ws k' v) := by
  unfold kPut putK
  rw [r.any hk]
  split
  · exact r.mapP hk hv
  · exact r.app (.cons hk hv .nil)
theorem RepKV.keys {kvs : List (MV × MV)} {ws : List (Key × V)} (r : RepKV K g I kvs ws) : RepVs K g I (keysOf kvs) (ws.map fun kv => kV kv.1) := by
  induction r with
  | nil => exact rfl
  | @cons a x a' w r r' h1 h2 _ ih =>
    refine ⟨_, _, rfl, ?_, ih⟩
    cases a <;> simp [keyV] at h1 <;> subst h1 <;> rfl
theorem truth_ok {x : MV} {v : V} {b : Bool} (S : Sim K cl g I F H st) (r : RepV K g I x v) (h : truth st x = some b) : TruV K v H b := by
  cases x with
  | non => cases r; simp only [truth, Option.some.injEq] at h; exact h.symm
  | bl c => cases r; simp only [truth, Option.some.injEq] at h; exact h.symm
  | int i => cases r; simp only [truth, Option.some.injEq] at h; exact h.symm
  | str s =>
    cases r
    simp only [truth] at h
    split at h
    · rename_i hl
      cases h
      refine ⟨by rw [len_arr, ← big_eq]; exact hl, ?_⟩
      rw [len_arr]
      cases s with
      | nil => rfl
      | cons c s =>
        show true = _
        symm
        simp only [List.length_cons, bne_iff_ne, ne_eq]
        omega
    · cases h
  | tup xs =>
    obtain ⟨p, vs, rfl, h1, h2⟩ := r
    simp only [truth] at h
    cases h
    refine .inr (.inl ⟨vs, S.ih.tup h1, ?_⟩)
    have e := h2.len
    cases vs <;> cases xs <;> simp at e ⊢
  | lsv xs =>
    obtain ⟨p, vs, rfl, h1, h2⟩ := r
    simp only [truth] at h
    cases h
    refine .inl ⟨vs, S.ih.lst h1, ?_⟩
    have e := h2.len
    cases vs <;> cases xs <;> simp at e ⊢
  | ref a =>
    obtain ⟨p, hp, rfl⟩ := r
    simp only [truth] at h
    split at h
    · rename_i xs hs
      cases h
      obtain ⟨vs, e1, r1⟩ := S.at_ hp hs
      refine .inl ⟨vs, SqL.of e1, ?_⟩
      have e := r1.len
      cases vs <;> cases xs <;> simp at e ⊢
    · rename_i kvs hs
      cases h
      obtain ⟨ws, e1, r1⟩ := S.at_ hp hs
      refine .inr (.inr ⟨ws, e1, ?_⟩)
      have e := r1.len
      cases ws <;> cases kvs <;> simp at e ⊢
    · cases h

theorem op_din {X : Cx} (hu : X.A.units + 1 < cLine) : OpR X (compareOp .In) (fun y x H Q => ∃ a ov, x = .ref a ∧ DGet H a y ov ∧ Q (.bl ov.isSome) H) := by
  intro pins s σ H y x v u Q I ry rx h
  obtain ⟨a, ov, rfl, gt, q⟩ := h
  cases rx
  exact d_in hu I gt ry fun s3 I3 => ⟨.bl ov.isSome, H, I3, rfl, q⟩
theorem op_dnin {X : Cx} (hu : X.A.units + 1 < cLine) : OpR X (compareOp .NotIn) (fun y x H Q => ∃ a ov, x = .ref a ∧ DGet H a y ov ∧ Q (.bl (!ov.isSome)) H) := by
  intro pins s σ H y x v u Q I ry rx h
  obtain ⟨a, ov, rfl, gt, q⟩ := h
  cases rx
  exact d_notIn hu I gt ry fun s3 I3 => ⟨.bl (!ov.isSome), H, I3, rfl, q⟩

theorem any_flat {x : MV} {ys : List MV} (hx : scalar x = true) (hy : ys.all scalar = true) : ((ys.map scD).any fun z => PD.eqv z (scD x)) = inV (scV x) (ys.map scV) := by
  unfold inV
  induction ys with
  | nil => rfl
  | cons y ys ih =>
    simp only [List.all_cons, Bool.and_eq_true] at hy
    simp only [List.map_cons, List.any_cons, ih hy.2, eqV_sc hy.1 hx]
theorem any_dp {d : PD} {ds : List PD} (h : d.nodic = true) (h' : PD.nodicAll ds = true) : ((pyDs ds).any fun z => PyData.eqv z (pyD d)) = ds.any fun z => PD.eqv z d := by
  induction ds with
  | nil => rfl
  | cons e ds ih =>
    simp only [PD.nodicAll, Bool.and_eq_true] at h'
    simp only [pyDs, List.any_cons, ih h'.2, eqv_py _ _ h'.1 h]
theorem flat_all (ys : List MV) : (ys.map scV).all flatV = true := by
  induction ys with
  | nil => rfl
  | cons y ys ih => simp only [List.map_cons, List.all_cons, flat_sc, ih, Bool.and_self]
theorem dps_all (S : Sim K cl g I F H st) {xs : List MV} {ds : List PD} {vs : List V} (n : Nat) (hd : PD.nodicAll ds = true) (h : xs.mapM (toPD n st) = some ds) (r : RepVs K g I xs vs) : DpAll K H vs (pyDs ds) :=
  dp_all (fun x d v a b c => dp_of S n x d v a b c) hd h r
theorem shaped_list {n : Nat} {xs : List MV} {ds : List PD} (hn : n + 1 ≤ 64) (hf : PD.fineAll ds = true) (h : xs.mapM (toPD n st) = some ds) : SeqAt.shaped (.list (pyDs ds)) = true :=
  shaped_of (st := st) (x := .lsv xs) (d := .lst ds) hn (by simpa [PD.fine] using hf) (by simp only [toPD, h]; rfl)

/-- in, not in a list or a tuple -/
theorem in_list {X : Cx} (hu : X.A.units + 65 < cLine) {x : MV} {ys : List MV} {v : V} {vs : List V} {p : Addr} {d : PD} {ds : List PD} {Q : Bool → Sto → Prop} (neg : Bool) (S : Sim X.K cl g I F H st) (rx : RepV X.K g I x v)
    (ry : RepVs X.K g I ys vs) (hs : SqL X.K H p vs) (h1 : toPD 30 st x = some d) (h2 : ys.mapM (toPD 30 st) = some ds) (ok : inOk x ys d ds) {Qm : Post} (q : Qm (.bl (if neg then !(ds.any fun z => PD.eqv z d) else ds.any fun z => PD.eqv z d)) st) :
    rSem X (compareOp (if neg then .NotIn else .In)) v (.ref p) H (QV X.K cl g I F Qm) := by
  rcases ok with ⟨a, b⟩ | ⟨a, b⟩
  · have e1 := scalar_v a rx
    have e2 := scalar_vs b ry
    have e3 := scalar_pd (n := 29) a h1
    have e4 := scalar_mapM (n := 29) b h2
    subst e1 e2 e3 e4
    rw [any_flat a b] at q
    cases neg with
    | false => exact rSem_of op_in_seq ⟨p, _, rfl, .inl hs, flat_sc _, flat_all _, QV.bl S q⟩
    | true => exact rSem_of op_notIn_seq ⟨p, _, rfl, .inl hs, flat_sc _, flat_all _, QV.bl S q⟩
  · have n1 := fine_nodic d a
    have n2 := fine_nodics ds b
    have D1 := dp_of S 30 x d v n1 h1 rx
    have D2 : Dp X.K H (.ref p) (.list (pyDs ds)) := .lst hs (dps_all S 30 n2 h2 ry)
    have s1 := shaped_of (n := 30) (st := st) (by decide) a h1
    have s2 := shaped_list (n := 30) (st := st) (by decide) b h2
    rw [← any_dp n1 n2] at q
    cases neg with
    | false => exact rSem_of (op_inD hu) ⟨_, _, D1, D2, s1, s2, QV.bl S q⟩
    | true => exact rSem_of (op_notInD hu) ⟨_, _, D1, D2, s1, s2, QV.bl S q⟩
theorem shaped_tuple {n : Nat} {xs : List MV} {ds : List PD} (hn : n + 1 ≤ 64) (hf : PD.fineAll ds = true) (h : xs.mapM (toPD n st) = some ds) : SeqAt.shaped (.tuple (pyDs ds)) = true :=
  shaped_of (st := st) (x := .tup xs) (d := .tup ds) hn (by simpa [PD.fine] using hf) (by simp only [toPD, h]; rfl)
theorem in_tup {X : Cx} (hu : X.A.units + 65 < cLine) {x : MV} {ys : List MV} {v : V} {vs : List V} {p : Addr} {d : PD} {ds : List PD} (neg : Bool) (S : Sim X.K cl g I F H st) (rx : RepV X.K g I x v)
    (ry : RepVs X.K g I ys vs) (hs : SqT X.K H p vs) (h1 : toPD 30 st x = some d) (h2 : ys.mapM (toPD 30 st) = some ds) (ok : inOk x ys d ds) {Qm : Post} (q : Qm (.bl (if neg then !(ds.any fun z => PD.eqv z d) else ds.any fun z => PD.eqv z d)) st) :
    rSem X (compareOp (if neg then .NotIn else .In)) v (.ref p) H (QV X.K cl g I F Qm) := by
  rcases ok with ⟨a, b⟩ | ⟨a, b⟩
  · have e1 := scalar_v a rx
    have e2 := scalar_vs b ry
    have e3 := scalar_pd (n := 29) a h1
    have e4 := scalar_mapM (n := 29) b h2
    subst e1 e2 e3 e4
    rw [any_flat a b] at q
    cases neg with
    | false => exact rSem_of op_in_seq ⟨p, _, rfl, .inr hs, flat_sc _, flat_all _, QV.bl S q⟩
    | true => exact rSem_of op_notIn_seq ⟨p, _, rfl, .inr hs, flat_sc _, flat_all _, QV.bl S q⟩
  · have n1 := fine_nodic d a
    have n2 := fine_nodics ds b
    have D1 := dp_of S 30 x d v n1 h1 rx
    have D2 : Dp X.K H (.ref p) (.tuple (pyDs ds)) := .tup hs (dps_all S 30 n2 h2 ry)
    have s1 := shaped_of (n := 30) (st := st) (by decide) a h1
    have s2 := shaped_tuple (n := 30) (st := st) (by decide) b h2
    rw [← any_dp n1 n2] at q
    cases neg with
    | false => exact rSem_of (op_inDT hu) ⟨_, _, D1, D2, s1, s2, QV.bl S q⟩
    | true => exact rSem_of (op_notInDT hu) ⟨_, _, D1, D2, s1, s2, QV.bl S q⟩
theorem in_any {X : Cx} (hu : X.A.units + 65 < cLine) {x y : MV} {v w : V} (neg : Bool) (S : Sim X.K cl g I F H st) (rx : RepV X.K g I x v) (ry : RepV X.K g I y w) {Qm : Post}
    (h : opIn x y st fun b st' => Qm (.bl (if neg then !b else b)) st') : rSem X (compareOp (if neg then .NotIn else .In)) v w H (QV X.K cl g I F Qm) := by
  cases y with
  | non => exact h.elim
  | bl b => exact h.elim
  | int i => exact h.elim
  | str t =>
    simp only [opIn] at h
    split at h
    · rename_i c
      cases rx; cases ry
      have e : decide (c ∈ (⟨t.toArray⟩ : Str).cps.toList) = t.contains c := by
        simp only [List.contains_eq_mem]
      rw [← e] at h
      cases neg with
      | false => exact rSem_of op_in_sign ⟨c, _, rfl, rfl, QV.bl S h⟩
      | true => exact rSem_of op_notIn_sign ⟨c, _, rfl, rfl, QV.bl S h⟩
    · exact h.elim
  | tup ys =>
    obtain ⟨p, vs, rfl, h1, h2⟩ := ry
    obtain ⟨d, ds, e1, e2, a, q⟩ := h
    exact in_tup hu neg S rx h2 (S.ih.tup h1) e1 e2 a q
  | lsv ys =>
    obtain ⟨p, vs, rfl, h1, h2⟩ := ry
    obtain ⟨d, ds, e1, e2, a, q⟩ := h
    exact in_list hu (Q := fun _ _ => True) neg S rx h2 (S.ih.lst h1) e1 e2 a q
  | ref a =>
    obtain ⟨p, hp, rfl⟩ := ry
    simp only [opIn] at h
    split at h
    · rename_i ys hs
      obtain ⟨d, ds, e1, e2, a, q⟩ := h
      obtain ⟨vs, e3, r1⟩ := S.at_ hp hs
      exact in_list hu (Q := fun _ _ => True) neg S rx r1 (SqL.of e3) e1 e2 a q
    · rename_i lk kvs hs
      obtain ⟨hk, q⟩ := h
      obtain ⟨k, ek, rfl⟩ := keyV_of hk rx
      have key : ∃ ws, Rd H p (.dK ws) ∧ RepKV X.K g I kvs ws := by
        cases lk with
        | false => obtain ⟨ws, e1, r1⟩ := S.at_ hp hs; exact ⟨ws, .inl e1, r1⟩
        | true => obtain ⟨o, ws, e1, r1, _⟩ := S.at_ hp hs; exact ⟨ws, .inr ⟨o, e1⟩, r1⟩
      obtain ⟨ws, e1, r1⟩ := key
      rw [← r1.isSome ek] at q
      cases neg with
      | false => exact rSem_of (op_din (by omega)) ⟨p, _, rfl, .inl ⟨ws, k, e1, rfl, rfl⟩, QV.bl S q⟩
      | true => exact rSem_of (op_dnin (by omega)) ⟨p, _, rfl, .inl ⟨ws, k, e1, rfl, rfl⟩, QV.bl S q⟩
    · exact h.elim
/-- dicts of which one is void, or not of one length -/
def rDq (f : Bool → Bool) : R2 := fun x y H Q => ∃ a b ks ls, x = .ref a ∧ y = .ref b ∧ H a = some (.dK ks) ∧ H b = some (.dK ls) ∧ (ks.length = ls.length → ks = []) ∧ Q (.bl (f (ks.length == ls.length))) H
theorem op_dq {X : Cx} (hu : X.A.units < cLine) : OpR X (compareOp .Eq) (rDq fun b => b) := by
  intro pins s σ H x y v u Q I rx ry h
  obtain ⟨a, b, ks, ls, rfl, rfl, ea, eb, hv, q⟩ := h
  obtain rfl : v = Value.ref a := rx
  obtain rfl : u = Value.ref b := ry
  obtain ⟨_, ya, va, ra, da⟩ := (show ObjOk X.prog X.w H s.heap a (.dK ks) from I.hok a _ ea)
  obtain ⟨_, yb, vb, rb, db⟩ := (show ObjOk X.prog X.w H s.heap b (.dK ls) from I.hok b _ eb)
  have la := ra.length
  have lb := rb.length
  refine PySem.W.keq_eq (knd := mixKind X.prog X.w) (r := true) ya yb da db hu (fun hl => ?_) (fin_bl I q (by simp [← la, ← lb]))
  have e : ks = [] := hv (by simpa [la, lb] using hl)
  subst e
  exact hits_all rb ra (by simp)
theorem op_dqn {X : Cx} (hu : X.A.units < cLine) : OpR X (compareOp .NotEq) (rDq fun b => !b) := by
  intro pins s σ H x y v u Q I rx ry h
  obtain ⟨a, b, ks, ls, rfl, rfl, ea, eb, hv, q⟩ := h
  obtain rfl : v = Value.ref a := rx
  obtain rfl : u = Value.ref b := ry
  obtain ⟨_, ya, va, ra, da⟩ := (show ObjOk X.prog X.w H s.heap a (.dK ks) from I.hok a _ ea)
  obtain ⟨_, yb, vb, rb, db⟩ := (show ObjOk X.prog X.w H s.heap b (.dK ls) from I.hok b _ eb)
  have la := ra.length
  have lb := rb.length
  refine PySem.W.keq_ne (knd := mixKind X.prog X.w) (r := true) ya yb da db hu (fun hl => ?_) (fin_bl I q (by simp [← la, ← lb]))
  have e : ks = [] := hv (by simpa [la, lb] using hl)
  subst e
  exact hits_all rb ra (by simp)
theorem deq_ok {X : Cx} (hu : X.A.units + 65 < cLine) {x y : MV} {v w : V} {Qm : Post} (S : Sim X.K cl g I F H st) (rx : RepV X.K g I x v) (ry : RepV X.K g I y w)
    (h : dEq x y st fun b => Qm (.bl b) st) : rSem X (compareOp .Eq) v w H (QV X.K cl g I F Qm) := by
  obtain ⟨a, b, ks, ls, rfl, rfl, e1, e2, hv, q⟩ := h
  obtain ⟨p, hp, rfl⟩ := rx
  obtain ⟨p2, hp2, rfl⟩ := ry
  obtain ⟨ws, e3, r1⟩ := S.at_ hp e1
  obtain ⟨us, e4, r2⟩ := S.at_ hp2 e2
  refine rSem_of (op_dq (by omega)) ⟨p, p2, ws, us, rfl, rfl, e3, e4, fun hl => ?_, QV.bl S (by simpa [r1.len, r2.len] using q)⟩
  have := hv (by rw [← r1.len, ← r2.len]; exact hl)
  exact List.eq_nil_of_length_eq_zero (by rw [r1.len, this]; rfl)
theorem dne_ok {X : Cx} (hu : X.A.units + 65 < cLine) {x y : MV} {v w : V} {Qm : Post} (S : Sim X.K cl g I F H st) (rx : RepV X.K g I x v) (ry : RepV X.K g I y w)
    (h : dEq x y st fun b => Qm (.bl (!b)) st) : rSem X (compareOp .NotEq) v w H (QV X.K cl g I F Qm) := by
  obtain ⟨a, b, ks, ls, rfl, rfl, e1, e2, hv, q⟩ := h
  obtain ⟨p, hp, rfl⟩ := rx
  obtain ⟨p2, hp2, rfl⟩ := ry
  obtain ⟨ws, e3, r1⟩ := S.at_ hp e1
  obtain ⟨us, e4, r2⟩ := S.at_ hp2 e2
  refine rSem_of (op_dqn (by omega)) ⟨p, p2, ws, us, rfl, rfl, e3, e4, fun hl => ?_, QV.bl S (by simpa [r1.len, r2.len] using q)⟩
  have := hv (by rw [← r1.len, ← r2.len]; exact hl)
  exact List.eq_nil_of_length_eq_zero (by rw [r1.len, this]; rfl)
theorem cmp_ok {X : Cx} (hu : X.A.units + 65 < cLine) (o : COp) {x y : MV} {v w : V} {Qm : Post} (S : Sim X.K cl g I F H st) (rx : RepV X.K g I x v) (ry : RepV X.K g I y w)
    (h : opCmp o x y st fun b st' => Qm (.bl b) st') : rSem X (compareOp (cop o)) v w H (QV X.K cl g I F Qm) := by
  cases o with
  | eq =>
    rcases h with ⟨d, e, h1, h2, ok, q⟩ | hd
    case inr => exact deq_ok hu S rx ry hd
    rcases ok with ok | ⟨a, b⟩
    · have hs : scalar x = true ∧ scalar y = true := by
        cases x <;> cases y <;> simp [scal2, scalar] at ok ⊢
      have e1 := scalar_v hs.1 rx
      have e2 := scalar_v hs.2 ry
      have e3 := scalar_pd (n := 29) hs.1 h1
      have e4 := scalar_pd (n := 29) hs.2 h2
      subst e1 e2 e3 e4
      obtain ⟨c1, c2⟩ := dec_sc ok
      rw [← c2] at q
      exact rSem_of op_eq ⟨c1, QV.bl S q⟩
    · rw [← eqv_py _ _ (fine_nodic _ a) (fine_nodic _ b)] at q
      exact rSem_of (op_eqD (by omega)) ⟨_, _, dp_of S 30 x d v (fine_nodic _ a) h1 rx, dp_of S 30 y e w (fine_nodic _ b) h2 ry, shaped_of (n := 30) (by decide) a h1, shaped_of (n := 30) (by decide) b h2, QV.bl S q⟩
  | ne =>
    rcases h with ⟨d, e, h1, h2, ok, q⟩ | hd
    case inr => exact dne_ok hu S rx ry hd
    rcases ok with ok | ⟨a, b⟩
    · have hs : scalar x = true ∧ scalar y = true := by
        cases x <;> cases y <;> simp [scal2, scalar] at ok ⊢
      have e1 := scalar_v hs.1 rx
      have e2 := scalar_v hs.2 ry
      have e3 := scalar_pd (n := 29) hs.1 h1
      have e4 := scalar_pd (n := 29) hs.2 h2
      subst e1 e2 e3 e4
      obtain ⟨c1, c2⟩ := dec_sc ok
      rw [← c2] at q
      exact rSem_of op_ne ⟨c1, QV.bl S q⟩
    · rw [← eqv_py _ _ (fine_nodic _ a) (fine_nodic _ b)] at q
      exact rSem_of (op_neD (by omega)) ⟨_, _, dp_of S 30 x d v (fine_nodic _ a) h1 rx, dp_of S 30 y e w (fine_nodic _ b) h2 ry, shaped_of (n := 30) (by decide) a h1, shaped_of (n := 30) (by decide) b h2, QV.bl S q⟩
  | lt => obtain ⟨i, j, rfl, rfl, q⟩ := h; cases rx; cases ry; exact rSem_of op_lt ⟨i, j, rfl, rfl, QV.bl S q⟩
  | le => obtain ⟨i, j, rfl, rfl, q⟩ := h; cases rx; cases ry; exact rSem_of op_le ⟨i, j, rfl, rfl, QV.bl S q⟩
  | gt => obtain ⟨i, j, rfl, rfl, q⟩ := h; cases rx; cases ry; exact rSem_of op_gt ⟨i, j, rfl, rfl, QV.bl S q⟩
  | ge => obtain ⟨i, j, rfl, rfl, q⟩ := h; cases rx; cases ry; exact rSem_of op_ge ⟨i, j, rfl, rfl, QV.bl S q⟩
  | isN =>
    obtain ⟨rfl, q⟩ := h
    cases ry
    refine rSem_of op_isN ⟨rfl, QV.bl S ?_⟩
    cases x <;> first | (cases rx; simpa using q) | (obtain ⟨p, vs, rfl, _⟩ := rx; simpa using q) | (obtain ⟨p, hp, rfl⟩ := rx; simpa using q)
  | notN =>
    obtain ⟨rfl, q⟩ := h
    cases ry
    refine rSem_of op_notN ⟨rfl, QV.bl S ?_⟩
    cases x <;> first | (cases rx; simpa using q) | (obtain ⟨p, vs, rfl, _⟩ := rx; simpa using q) | (obtain ⟨p, hp, rfl⟩ := rx; simpa using q)
  | inn => exact in_any hu false S rx ry h
  | nin => exact in_any hu true S rx ry h
end
end Snd
-- S5
namespace Snd
open PySem L2 Mi

/-! ### texts -/
def toS (s : Tx) : Str := ⟨s.toArray⟩
theorem toS_inj {a b : Tx} (h : toS a = toS b) : a = b := by
  injection h with h
  simpa using h
theorem join_toS (s : Tx) : ∀ ws : List Tx, Str.join (toS s) (ws.map toS) = toS (joinBy s ws)
  | [] => rfl
  | [w] => rfl
  | w :: u :: ws => by
    have ih := join_toS s (u :: ws)
    show toS w ++ toS s ++ Str.join (toS s) (toS u :: ws.map toS) = toS (w ++ s ++ joinBy s (u :: ws))
    rw [show Str.join (toS s) (toS u :: ws.map toS) = toS (joinBy s (u :: ws)) from ih]
    unfold toS
    rw [app_arr, app_arr]
theorem splitOn_ne (c : Nat) : ∀ s : Tx, splitOn c s ≠ []
  | [] => by simp [splitOn]
  | x :: r => by
    have ih := splitOn_ne c r
    simp only [splitOn]
    split
    · simp
    · split <;> simp
theorem splitOn_free (c : Nat) : ∀ (s : Tx), ∀ w ∈ splitOn c s, c ∉ w
  | [], w, h => by simp [splitOn] at h; subst h; simp
  | x :: r, w, h => by
    have ih := splitOn_free c r
    simp only [splitOn] at h
    split at h
    · rcases List.mem_cons.mp h with rfl | h
      · simp
      · exact ih w h
    · rename_i hx
      split at h
      · rename_i e
        simp at h; subst h
        simpa using fun z => hx z.symm
      · rename_i v vs e
        rcases List.mem_cons.mp h with rfl | h
        · have := ih v (by rw [e]; exact List.mem_cons_self)
          simp only [List.mem_cons, not_or]
          exact ⟨fun z => hx z.symm, this⟩
        · exact ih w (by rw [e]; exact List.mem_cons_of_mem _ h)
theorem joinBy_cons (s w : Tx) {ws : List Tx} (h : ws ≠ []) : joinBy s (w :: ws) = w ++ s ++ joinBy s ws := by
  cases ws with
  | nil => exact absurd rfl h
  | cons u r => rfl
theorem joinBy_cc (s w u : Tx) (r : List Tx) : joinBy s (w :: u :: r) = w ++ s ++ joinBy s (u :: r) := rfl
theorem splitOn_join (c : Nat) : ∀ s : Tx, joinBy [c] (splitOn c s) = s
  | [] => rfl
  | x :: r => by
    have ih := splitOn_join c r
    have hn := splitOn_ne c r
    simp only [splitOn]
    split
    · rename_i e
      rw [joinBy_cons _ _ hn, ih, e]; rfl
    · split
      · rename_i e; exact absurd e hn
      · rename_i v vs e
        rw [e] at ih
        cases vs with
        | nil => simp only [joinBy] at ih ⊢; rw [ih]
        | cons u q =>
          rw [joinBy_cons _ _ (by simp)] at ih ⊢
          rw [← ih]; rfl
theorem cut_eq {c : Nat} : ∀ {a b x y : Tx}, c ∉ a → c ∉ b → a ++ c :: x = b ++ c :: y → a = b ∧ x = y
  | [], [], x, y, _, _, h => by simp at h; exact ⟨rfl, h⟩
  | [], b :: bs, x, y, _, hb, h => by
    simp at h
    exact absurd (by rw [h.1]; exact List.mem_cons_self) hb
  | a :: as, [], x, y, ha, _, h => by
    simp at h
    exact absurd (by rw [h.1]; exact List.mem_cons_self) ha
  | a :: as, b :: bs, x, y, ha, hb, h => by
    simp at h
    obtain ⟨h1, h2⟩ := h
    obtain ⟨e1, e2⟩ := cut_eq (fun z => ha (List.mem_cons_of_mem _ z)) (fun z => hb (List.mem_cons_of_mem _ z)) h2
    exact ⟨by rw [h1, e1], e2⟩
theorem join_inj {c : Nat} : ∀ {ws vs : List Tx}, ws ≠ [] → vs ≠ [] → (∀ w ∈ ws, c ∉ w) → (∀ w ∈ vs, c ∉ w) → joinBy [c] ws = joinBy [c] vs → ws = vs
  | [], _, h, _, _, _, _ => absurd rfl h
  | _ :: _, [], _, h, _, _, _ => absurd rfl h
  | [w], [v], _, _, _, _, h => by simp only [joinBy] at h; rw [h]
  | [w], v :: u :: vs, _, _, h1, h2, h => by
    rw [joinBy_cc, show joinBy [c] [w] = w from rfl] at h
    exact absurd (by rw [h]; simp) (h1 w List.mem_cons_self)
  | w :: u :: ws, [v], _, _, h1, h2, h => by
    rw [joinBy_cc, show joinBy [c] [v] = v from rfl] at h
    exact absurd (by rw [← h]; simp) (h2 v List.mem_cons_self)
  | w :: u :: ws, v :: u' :: vs, _, _, h1, h2, h => by
    rw [joinBy_cc, joinBy_cc] at h
    have h' : w ++ c :: joinBy [c] (u :: ws) = v ++ c :: joinBy [c] (u' :: vs) := by simpa using h
    obtain ⟨e1, e2⟩ := cut_eq (h1 w List.mem_cons_self) (h2 v List.mem_cons_self) h'
    rw [e1, join_inj (by simp) (by simp) (fun z hz => h1 z (List.mem_cons_of_mem _ hz)) (fun z hz => h2 z (List.mem_cons_of_mem _ hz)) e2]
theorem toS_surj (z : Str) : ∃ t, z = toS t := ⟨z.cps.toList, by cases z; simp [toS]⟩
theorem toS_map_surj : ∀ zs : List Str, ∃ ts : List Tx, zs = ts.map toS
  | [] => ⟨[], rfl⟩
  | z :: zs => by
    obtain ⟨t, rfl⟩ := toS_surj z
    obtain ⟨ts, rfl⟩ := toS_map_surj zs
    exact ⟨t :: ts, rfl⟩
theorem split_toS (c : Nat) (s : Tx) : Txt.split (toS s) ⟨#[c]⟩ = (splitOn c s).map toS := by
  obtain ⟨ts, h⟩ := toS_map_surj (Txt.split (toS s) ⟨#[c]⟩)
  rw [h]
  have h1 := StrLaws.join_split (toS s) ⟨#[c]⟩
  rw [h, show (⟨#[c]⟩ : Str) = toS [c] from rfl, join_toS] at h1
  have h1 := toS_inj h1
  have h2 := StrLaws.split_free (toS s) c
  have h3 := PyProof.Rows.split_pos (toS s) ⟨#[c]⟩
  rw [h] at h2 h3
  rw [join_inj (c := c) (ws := ts) (vs := splitOn c s) (by intro e; subst e; simp at h3) (splitOn_ne c s) (fun w hw => by
    have := h2 (toS w) (List.mem_map_of_mem hw)
    simpa [toS] using this) (splitOn_free c s) (by rw [h1, splitOn_join])]
theorem cut_map {K : PySem.W.Frag} {g : Mu} {I : Hp} {xs : List MV} {vs : List V} (r : RepVs K g I xs vs) (lo hi : Option Int) : RepVs K g I (cut xs lo hi) (cutV vs lo hi) := by
  have e : ∀ (n d : Nat) (o : Option Int), Mi.sIx n d o = HT.sIx n d o := fun n d o => by cases o <;> rfl
  unfold cut cutV
  rw [r.len, e, e]
  exact (r.drop _).take _
theorem cut_str (s : Tx) (lo hi : Option Int) : cutS (toS s) lo hi = toS (cut s lo hi) := by
  have e : ∀ (n d : Nat) (o : Option Int), Mi.sIx n d o = HT.sIx n d o := fun n d o => by cases o <;> rfl
  unfold cutS cut toS
  rw [len_arr, e, e]
theorem ixOf_eq (n : Nat) (i : Int) : ixOf n i = ixN n i := rfl

/-! ### x[i] -/
/-- a subscript's own want -/
def iSem (X : Cx) : R2 := fun x y H Q => ∀ (value slice : Expr) (pins : List (Addr × Obj)) (s : Shared) (σ : HS) (v u : Value), Inv X pins σ H s → RelV x v → RelV y u →
  subscripted slice false v u = operate [v, u] (getItem v u) → wpAny (model X.prog X.w) X.A (PyProof.Rows.subscriptTail value slice v u) (EP X pins σ Q) X.xe s
theorem iSem_ok {X : Cx} : IxR X (iSem X) := fun value slice pins s σ _ _ _ v u _ I r1 r2 h hs => h value slice pins s σ v u I r1 r2 hs
theorem iSem_of {X : Cx} {r : R2} (ho : IxR X r) {x y : V} {H : Hp} {Q : VK} (h : r x y H Q) : iSem X x y H Q := fun value slice pins s σ v u I r1 r2 hs => ho value slice pins s σ _ x y v u Q I r1 r2 h hs
theorem ix_dic {X : Cx} (hu : X.A.units + 1 < cLine) : IxR X (fun x y H Q => ∃ a v, x = .ref a ∧ DGet H a y (some v) ∧ Q v H) := by
  intro value slice pins s σ H x y v u Q I rx ry h hs
  obtain ⟨a, w, rfl, gt, q⟩ := h
  cases rx
  exact PyProof.Rows.tail_any (dict_typeIs I gt) PySem.F.slot_dict_getitem.lookup (d_getItem hu I gt ry fun w' s3 I3 rw' => ⟨w, H, I3, rw', q⟩) hs
section
variable {K : PySem.W.Frag} {cl : Kl} {g : Mu} {I F H : Hp} {st : Sto}
theorem ix_seqV {X : Cx} {xs : List MV} {vs : List V} {n : Int} {y : MV} (r : RepVs K g I xs vs) (h : (ixOf xs.length n).bind (xs[·]?) = some y) : ∃ v, atI vs n = some v ∧ RepV K g I y v := by
  unfold atI
  rw [r.len, ← ixOf_eq]
  cases e : ixOf xs.length n with
  | none => rw [e] at h; cases h
  | some k =>
    rw [e] at h
    exact r.get h
theorem sub_ok {X : Cx} (hu : X.A.units + 65 < cLine) {x i : MV} {v w : V} {Q : Post} (S : Sim X.K cl g I F H st) (rx : RepV X.K g I x v) (ry : RepV X.K g I i w) (h : opSub x i st Q) : iSem X v w H (QV X.K cl g I F Q) := by
  cases x with
  | non => exact h.elim
  | bl b => exact h.elim
  | int i => exact h.elim
  | str s =>
    obtain ⟨n, c, rfl, hl, hi, q⟩ := h
    cases rx; cases ry
    refine iSem_of ix_str ⟨_, n, c, rfl, rfl, by rw [len_arr, ← big_eq]; exact hl, ?_, QV.str (s := [c]) S q⟩
    exact hi
  | tup xs =>
    obtain ⟨n, y, rfl, hi, q⟩ := h
    obtain ⟨p, vs, rfl, h1, h2⟩ := rx
    cases ry
    obtain ⟨z, e, r⟩ := ix_seqV (X := X) h2 hi
    exact iSem_of ix_tup ⟨p, vs, n, z, rfl, rfl, S.ih.tup h1, e, QV.mk S r q⟩
  | lsv xs =>
    obtain ⟨n, y, rfl, hi, q⟩ := h
    obtain ⟨p, vs, rfl, h1, h2⟩ := rx
    cases ry
    obtain ⟨z, e, r⟩ := ix_seqV (X := X) h2 hi
    exact iSem_of ix_list ⟨p, vs, n, z, rfl, rfl, S.ih.lst h1, e, QV.mk S r q⟩
  | ref a =>
    obtain ⟨p, hp, rfl⟩ := rx
    simp only [opSub] at h
    split at h
    · rename_i xs hs
      obtain ⟨n, y, rfl, hi, q⟩ := h
      obtain ⟨vs, e1, r1⟩ := S.at_ hp hs
      cases ry
      obtain ⟨z, e, r⟩ := ix_seqV (X := X) r1 hi
      exact iSem_of ix_list ⟨p, vs, n, z, rfl, rfl, SqL.of e1, e, QV.mk S r q⟩
    · rename_i lk kvs hs
      obtain ⟨y, hk, hl, q⟩ := h
      obtain ⟨k, ek, rfl⟩ := keyV_of hk ry
      have key : ∃ ws, Rd H p (.dK ws) ∧ RepKV X.K g I kvs ws := by
        cases lk with
        | false => obtain ⟨ws, e1, r1⟩ := S.at_ hp hs; exact ⟨ws, .inl e1, r1⟩
        | true => obtain ⟨o, ws, e1, r1, _⟩ := S.at_ hp hs; exact ⟨ws, .inr ⟨o, e1⟩, r1⟩
      obtain ⟨ws, e1, r1⟩ := key
      obtain ⟨z, e2, r2⟩ := (r1.look ek).1 y hl
      exact iSem_of (ix_dic (by omega)) ⟨p, z, rfl, .inl ⟨ws, k, e1, rfl, e2.symm⟩, QV.mk S r2 q⟩
    · exact h.elim

/-! ### slices -/
def slSem (X : Cx) : V → Option Int → Option Int → Hp → VK → Prop := fun x lo hi H Q => ∀ (pins : List (Addr × Obj)) (s : Shared) (σ : HS) (v vl vu : Value) (sl : Addr), Inv X pins σ H s → RelV x v → s.heap.IsSliceOf sl vl vu .none → IsPart vl lo → IsPart vu hi →
    ∃ T id, typeLookup (.type T) "__getitem__" = pure (some (.builtin id)) ∧ s.TypeIs v T ∧ wpAny (model X.prog X.w) X.A (getItem v (.ref sl)) (EP X pins σ Q) X.xe s
theorem slSem_ok {X : Cx} : L2.SlR X (slSem X) := fun pins s σ _ _ v vl vu _ _ sl _ I r hs p1 p2 h => h pins s σ v vl vu sl I r hs p1 p2
theorem slSem_of {X : Cx} {r : V → Option Int → Option Int → Hp → VK → Prop} (ho : L2.SlR X r) {x : V} {lo hi : Option Int} {H : Hp} {Q : VK} (h : r x lo hi H Q) : slSem X x lo hi H Q :=
  fun pins s σ v vl vu sl I r1 hs p1 p2 => ho pins s σ H x v vl vu lo hi sl Q I r1 hs p1 p2 h
theorem sli_ok {X : Cx} {x : MV} {v : V} {lo hi : Option Int} {Q : Post} (S : Sim X.K cl g I F H st) (rx : RepV X.K g I x v) (h : opSli x lo hi st Q) : slSem X v lo hi H (QV X.K cl g I F Q) := by
  cases x with
  | non => exact h.elim
  | bl b => exact h.elim
  | int i => exact h.elim
  | lsv i => exact h.elim
  | str s =>
    obtain ⟨hl, q⟩ := h
    cases rx
    refine slSem_of sl_str ⟨_, rfl, by rw [len_arr, ← big_eq]; exact hl, ?_⟩
    rw [show (⟨s.toArray⟩ : Str) = toS s from rfl, cut_str]
    exact QV.str S q
  | tup xs =>
    obtain ⟨p, vs, rfl, h1, h2⟩ := rx
    have hc := cut_map h2 lo hi
    refine slSem_of sl_tupA ⟨p, vs, rfl, S.ih.tup h1, fun e => ?_, fun _ p' hn => new_tup S hc h hn⟩
    have e2 : cutV vs lo hi = vs := by
      unfold cutV
      rw [e.1, e.2]; simp
    have e3 : cut xs lo hi = xs := by
      have el : vs.length = xs.length := h2.len
      have e' : ∀ (n d : Nat) (o : Option Int), Mi.sIx n d o = HT.sIx n d o := fun n d o => by cases o <;> rfl
      unfold cut
      rw [e', e', ← el, e.1, e.2, el]; simp
    have h : Q (.tup (cut xs lo hi)) st := h
    rw [e3] at h
    exact QV.tup S h1 h2 h
  | ref a =>
    obtain ⟨p, hp, rfl⟩ := rx
    simp only [opSli] at h
    split at h
    · rename_i xs hs
      obtain ⟨vs, e1, r1⟩ := S.at_ hp hs
      exact slSem_of sl_list ⟨p, vs, rfl, SqL.of e1, fun p' hn => new_list S (cut_map r1 lo hi) h hn⟩
    · exact h.elim
end
end Snd
-- S6
namespace Snd
open PySem L2 Mi

/-- a call's own want -/
def cSem (X : Cx) (f : Value) : List V → Hp → VK → Prop := fun xs H Q => ∀ (pins : List (Addr × Obj)) (s : Shared) (σ : HS) (us : List Value), Inv X pins σ H s → Vals xs us →
  wpAny (model X.prog X.w) X.A (call f us) (EP X pins σ Q) X.xe s
theorem cSem_ok {X : Cx} {f : Value} : CallR X f (cSem X f) := fun pins s σ _ _ us _ I r h => h pins s σ us I r
theorem cSem_of {X : Cx} {f : Value} {r : List V → Hp → VK → Prop} (ho : CallR X f r) {xs : List V} {H : Hp} {Q : VK} (h : r xs H Q) : cSem X f xs H Q := fun pins s σ us I r1 => ho pins s σ _ xs us Q I r1 h

def bval : Blt → Value
  | .len => .builtin "len" | .abs => .builtin "abs" | .int => .type "int" | .str => .type "str" | .list => .type "list" | .tuple => .type "tuple" | .max => .builtin "max" | .min => .builtin "min"
  | .sum => .builtin "sum" | .all => .builtin "all" | .any => .builtin "any" | .sorted => .builtin "sorted" | .repr => .builtin "repr" | .dict => .type "dict" | .set => .type "set" | .range => .type "range"
def rpD (d : PD) : Tx := (pyD d).shown.cps.toList
theorem toS_list (z : Str) : toS z.cps.toList = z := by cases z; simp [toS]
theorem toS_rp (d : PD) : toS (rpD d) = (pyD d).shown := toS_list _
theorem len_rp (d : PD) : (rpD d).length = (pyD d).shown.length := by simp [rpD, Str.length]

theorem nat_str (n : Nat) : (toString n : String).toList.map Char.toNat = natTx n := by
  show (Nat.repr n).toList.map Char.toNat = _
  unfold natTx Nat.repr
  simp
theorem int_str (i : Int) : (toString i : String).toList.map Char.toNat = intTx i := by
  cases i with
  | ofNat n => exact nat_str n
  | negSucc n =>
    show (Int.repr (Int.negSucc n)).toList.map Char.toNat = _
    show (("-" ++ Nat.repr (n + 1) : String)).toList.map Char.toNat = 45 :: natTx (n + 1)
    rw [String.toList_append, List.map_append]
    rw [show (Nat.repr (n + 1)).toList.map Char.toNat = natTx (n + 1) from nat_str (n + 1)]
    rfl
theorem ofS (x : String) : Str.ofString x = toS (x.toList.map Char.toNat) := by
  rw [Str.ofString_eq_toList]
  rfl
theorem ofS_inj {a b : String} (h : Str.ofString a = Str.ofString b) : a = b := by
  rw [ofS, ofS] at h
  have h := toS_inj h
  apply String.toList_inj.mp
  exact List.map_inj_right (fun x y e => Char.toNat_inj.mp e) |>.mp h
theorem int_toS (i : Int) : Str.ofString (toString i) = toS (intTx i) := by rw [ofS, int_str]

/-- digits read -/
theorem digits_read (s : Tx) : (∀ c ∈ s, 48 ≤ c ∧ c ≤ 57) → ∀ (p : Array Nat) (b : Bool), s ≠ [] → s.foldlM (NumText.step 10) (p, b) = some ((p ++ (s.map (· - 48)).toArray), true) := by
  induction s with
  | nil => intro _ p b h; exact absurd rfl h
  | cons c s ih =>
    intro h p b _
    have hc := h c List.mem_cons_self
    have e : NumText.step 10 (p, b) c = some (p.push (c - 48), true) := by
      unfold NumText.step NumText.digit?
      have h1 : (c == 95) = false := by simp; omega
      have h2 : (48 ≤ c && c ≤ 57) = true := by simp [hc]
      have h3 : c - 48 < 10 := by omega
      simp only [h1, Bool.false_eq_true, if_false]
      simp [hc, h3]
    rw [List.foldlM_cons, e]
    show s.foldlM (NumText.step 10) (p.push (c - 48), true) = _
    by_cases hs : s = []
    · subst hs; simp
    · rw [ih (fun d hd => h d (List.mem_cons_of_mem _ hd)) _ _ hs]
      simp
theorem drop_none {p : Nat → Bool} : ∀ {l : List Nat}, (∀ c ∈ l, p c = false) → l.dropWhile p = l
  | [], _ => rfl
  | c :: r, h => by rw [List.dropWhile_cons, h c List.mem_cons_self]; rfl
theorem take_all {p : Nat → Bool} : ∀ {l : List Nat}, (∀ c ∈ l, p c = true) → l.takeWhile p = l
  | [], _ => rfl
  | c :: r, h => by rw [List.takeWhile_cons, h c List.mem_cons_self, take_all fun d hd => h d (List.mem_cons_of_mem _ hd)]; rfl
theorem worth_eq (s : Tx) (h : ∀ c ∈ s, 48 ≤ c ∧ c ≤ 57) : ∀ (n : Nat), (((s.map (· - 48)).foldl (fun acc d => acc * 10 + d) n : Nat) : Int) = List.foldl (fun (a : Int) (c : Nat) => a * 10 + ((c : Int) - 48)) (n : Int) s := by
  induction s with
  | nil => intro n; rfl
  | cons c s ih =>
    intro n
    have hc := h c List.mem_cons_self
    simp only [List.map_cons, List.foldl_cons]
    rw [ih (fun d hd => h d (List.mem_cons_of_mem _ hd))]
    congr 1
    omega
theorem int_read {s : Tx} {i : Int} (h : digitVal s = some i) : PySem.intText? (toS s) = some i ∧ (toS s).length ≤ 640 := by
  unfold digitVal at h
  split at h
  · rename_i hc
    cases h
    obtain ⟨h1, h2, h3⟩ := hc
    have hd : ∀ c ∈ s, 48 ≤ c ∧ c ≤ 57 := fun c hc => by
      have := List.all_eq_true.mp h3 c hc
      simpa using this
    have e1 : numTextOf (toS s) = s := by
      unfold numTextOf
      rw [if_pos]
      · rfl
      · simp only [toS, List.all_toArray, List.all_eq_true]
        intro c hc
        have := hd c hc
        simp; omega
    have e2 : numSeenOf (toS s) = s := by
      unfold numSeenOf
      rw [e1]
      exact take_all fun c hc => by have := hd c hc; simp; omega
    have bl : ∀ c ∈ s, NumText.blank c = false := fun c hc => by
      have := hd c hc
      unfold NumText.blank
      simp; omega
    have e3 : s.dropWhile NumText.blank = s := drop_none bl
    have e4 : NumText.sign s = (false, s) := by
      unfold NumText.sign
      cases s with
      | nil => rfl
      | cons c r =>
        have := hd c List.mem_cons_self
        split
        · rename_i e; injection e with e _; omega
        · rename_i e; injection e with e _; omega
        · rfl
    have e5 : NumText.core s = s := by
      unfold NumText.core
      rw [e3, e4]
      show (s.reverse.dropWhile NumText.blank).reverse = s
      rw [drop_none fun c hc => bl c (List.mem_reverse.mp hc), List.reverse_reverse]
    have hne : s ≠ [] := by intro e; subst e; simp at h1
    refine ⟨?_, by show (⟨s.toArray⟩ : Str).length ≤ 640; rw [len_arr]; omega⟩
    unfold PySem.intText?
    rw [e2, e1, if_pos (by simp), e5]
    have e6 : NumText.digits? 10 s = some (s.map (· - 48)).toArray := by
      unfold NumText.digits?
      rw [digits_read s hd _ _ hne]
      simp
    rw [e6]
    dsimp only
    rw [if_pos (by simp; omega), e3, e4]
    unfold NumText.worth
    rw [if_neg (show ¬ (false = true) from Bool.false_ne_true)]
    congr 1
    have := worth_eq s hd 0
    simpa using this
  · cases h

section
variable {K : PySem.W.Frag} {cl : Kl} {g : Mu} {I F H : Hp} {st : Sto}
theorem ints_of {ns : List Int} {vs : List V} (r : RepVs K g I (ns.map .int) vs) : vs = ns.map V.int := RepVs.of_map (f := MV.int) (f' := V.int) (fun _ _ h => h) r
theorem bls_of {ns : List Bool} {vs : List V} (r : RepVs K g I (ns.map .bl) vs) : vs = ns.map V.bl := RepVs.of_map (f := MV.bl) (f' := V.bl) (fun _ _ h => h) r
theorem strs_of {ns : List Tx} {vs : List V} (r : RepVs K g I (ns.map .str) vs) : vs = (ns.map toS).map V.str := by
  rw [RepVs.of_map (f := MV.str) (f' := fun t => V.str (toS t)) (fun _ _ h => h) r, List.map_map]; rfl
/-- a new dict -/
theorem new_dict {Q : Post} {kvs : List (MV × MV)} {ws : List (Key × V)} (S : Sim K cl g I F H st) (r : RepKV K g I kvs ws) (q : Q (.ref st.length) (st ++ [.dic false kvs])) {p : Addr} (hn : H p = none) : QV K cl g I F Q (.ref p) (upd H p (.dK ws)) := by
  refine ⟨gAdd g st.length p, I, .ref st.length, _, gAdd_le S.no, LeH.refl _, S.new (mo := .dic false kvs) hn ⟨ws, upd_same, r.mono (gAdd_le S.no) (LeH.refl _)⟩, ⟨p, ?_, rfl⟩, q⟩
  unfold gAdd; rw [if_pos rfl]
/-- a list's or a tuple's reading -/
theorem dic_rd {lk : Bool} {kvs : List (MV × MV)} {a : Nat} {p : Addr} (S : Sim K cl g I F H st) (hp : g a = some p) (hs : st[a]? = some (.dic lk kvs)) : ∃ ws, Rd H p (.dK ws) ∧ RepKV K g I kvs ws := by
  cases lk with
  | false => obtain ⟨ws, e1, r1⟩ := S.at_ hp hs; exact ⟨ws, .inl e1, r1⟩
  | true => obtain ⟨o, ws, e1, r1, _⟩ := S.at_ hp hs; exact ⟨ws, .inr ⟨o, e1⟩, r1⟩
theorem dict_from {X : Cx} {H : Hp} : ∀ {xs : List MV} {vs : List V} {acc kvs : List (MV × MV)} {wcc : List (Key × V)}, dictOf xs acc = some kvs → RepVs X.K g I xs vs → RepKV X.K g I acc wcc → LeH I H →
    ∃ ps ws, vs = ps.map V.ref ∧ Paired (fun p (kv : Key × V) => SqT X.K H p [kV kv.1, kv.2]) ps ws ∧ RepKV X.K g I kvs (mergeK wcc ws)
  | [], vs, acc, kvs, wcc, h, r, ra, hI => by
    simp only [dictOf] at h
    cases h
    have r : vs = [] := r
    subst r
    exact ⟨[], [], rfl, .nil, ra⟩
  | x :: xs, vs, acc, kvs, wcc, h, ⟨v, r, h1, h2, h3⟩, ra, hI => by
    unfold dictOf at h
    split at h
    · rename_i e; cases e
    · rename_i k y r' e
      injection e with e e'
      subst e e'
      split at h
      · rename_i hk
        obtain ⟨p, us, rfl, h4, h5⟩ := h2
        obtain ⟨a, b, rfl, h6, h7⟩ := h5.two
        obtain ⟨k', ek, rfl⟩ := keyV_of hk h6
        obtain ⟨ps, ws, e1, e2, e3⟩ := dict_from (X := X) h h3 (ra.put ek h7) hI
        refine ⟨p :: ps, (k', b) :: ws, by rw [h1, e1]; rfl, .cons (hI.tup h4) e2, ?_⟩
        unfold mergeK at e3 ⊢
        rw [List.foldl_cons]
        exact e3
      · cases h
    · cases h
theorem seqL_of {X : Cx} {xs : List MV} {v : V} (S : Sim X.K cl g I F H st) {x : MV} (rx : RepV X.K g I x v) (h : seqOf st x = some xs) : ∃ p vs, v = .ref p ∧ (SqL X.K H p vs ∨ SqT X.K H p vs) ∧ RepVs X.K g I xs vs := by
  cases x with
  | non => cases h
  | bl b => cases h
  | int i => cases h
  | str s => cases h
  | tup ys =>
    cases h
    obtain ⟨p, vs, rfl, h1, h2⟩ := rx
    exact ⟨p, vs, rfl, .inr (S.ih.tup h1), h2⟩
  | lsv ys =>
    cases h
    obtain ⟨p, vs, rfl, h1, h2⟩ := rx
    exact ⟨p, vs, rfl, .inl (S.ih.lst h1), h2⟩
  | ref a =>
    obtain ⟨p, hp, rfl⟩ := rx
    simp only [seqOf] at h
    split at h
    · rename_i ys hs
      cases h
      obtain ⟨vs, e1, r1⟩ := S.at_ hp hs
      exact ⟨p, vs, rfl, .inl (SqL.of e1), r1⟩
    · cases h
mutual
theorem shw_py : ∀ d : PD, d.shw = true → (pyD d).showable = true
  | .non, _ => by simp [pyD, PyData.showable]
  | .bl _, _ => by simp [pyD, PyData.showable]
  | .str _, _ => by simp [pyD, PyData.showable]
  | .int i, h => by
    simp only [pyD, PyData.showable]
    simp only [PD.shw, decide_eq_true_eq] at h
    exact decide_eq_true (Nat.lt_trans (PySem.Flt.log2_lt_of (by decide) h) (by decide))
  | .lst xs, h => by simp only [pyD, PyData.showable]; exact shw_pys xs (by simpa [PD.shw] using h)
  | .tup xs, h => by simp only [pyD, PyData.showable]; exact shw_pys xs (by simpa [PD.shw] using h)
  | .dic xs, h => by simp only [pyD, PyData.showable]; exact shw_pyk xs (by simpa [PD.shw] using h)
theorem shw_pys : ∀ d : List PD, PD.shwAll d = true → PyData.showableAll (pyDs d) = true
  | [], _ => by simp [pyDs, PyData.showableAll]
  | x :: xs, h => by
    simp only [PD.shwAll, Bool.and_eq_true] at h
    simp only [pyDs, PyData.showableAll, Bool.and_eq_true]
    exact ⟨shw_py x h.1, shw_pys xs h.2⟩
theorem shw_pyk : ∀ d : List (PD × PD), PD.shwKv d = true → PyData.showableKv (pyDk d) = true
  | [], _ => by simp [pyDk, PyData.showableKv]
  | (k, v) :: xs, h => by
    simp only [PD.shwKv, Bool.and_eq_true] at h
    simp only [pyDk, PyData.showableKv, Bool.and_eq_true]
    exact ⟨⟨shw_py k h.1.1, shw_py v h.1.2⟩, shw_pyk xs h.2⟩
end
mutual
theorem nodic_py : ∀ d : PD, d.nodic = true → (pyD d).hasDict = false
  | .non, _ => by simp [pyD, PyData.hasDict]
  | .bl _, _ => by simp [pyD, PyData.hasDict]
  | .str _, _ => by simp [pyD, PyData.hasDict]
  | .int i, h => by simp [pyD, PyData.hasDict]
  | .lst xs, h => by simp only [pyD, PyData.hasDict]; exact nodic_pys xs (by simpa [PD.nodic] using h)
  | .tup xs, h => by simp only [pyD, PyData.hasDict]; exact nodic_pys xs (by simpa [PD.nodic] using h)
  | .dic xs, h => by simp [PD.nodic] at h
theorem nodic_pys : ∀ d : List PD, PD.nodicAll d = true → PyData.hasDictAll (pyDs d) = false
  | [], _ => by simp [pyDs, PyData.hasDictAll]
  | x :: xs, h => by
    simp only [PD.nodicAll, Bool.and_eq_true] at h
    simp only [pyDs, PyData.hasDictAll, Bool.or_eq_false_iff]
    exact ⟨nodic_py x h.1, nodic_pys xs h.2⟩
end
/-- a dict of scalars, read -/
theorem reads_sc {K : PySem.W.Frag} {g : Mu} {I : Hp} {h : Heap} {n : Nat} {st : Sto} {x : MV} {d : PD} {v : V} {u : Value} (e : toPD n st x = some d) (hs : d.scal = true) (r : RepV K g I x v) (q : RelV v u) : Reads h u (pyD d) [] := by
  cases n with
  | zero => simp [toPD] at e
  | succ n =>
    cases x with
    | non => simp [toPD] at e; subst e; cases r; cases q; exact .none
    | bl b => simp [toPD] at e; subst e; cases r; cases q; exact .bool b
    | int i => simp [toPD] at e; subst e; cases r; obtain ⟨t, rfl⟩ := q; exact .int i t
    | str s => simp [toPD] at e; subst e; cases r; obtain ⟨t, rfl⟩ := q; exact .str _ t
    | tup xs =>
      simp only [toPD, Option.map_eq_some_iff] at e
      obtain ⟨ds, _, rfl⟩ := e
      simp [PD.scal] at hs
    | lsv xs =>
      simp only [toPD, Option.map_eq_some_iff] at e
      obtain ⟨ds, _, rfl⟩ := e
      simp [PD.scal] at hs
    | ref a =>
      simp only [toPD] at e
      split at e
      · simp only [Option.map_eq_some_iff] at e
        obtain ⟨ds, _, rfl⟩ := e
        simp [PD.scal] at hs
      · simp only [Option.map_eq_some_iff] at e
        obtain ⟨ds, _, rfl⟩ := e
        simp [PD.scal] at hs
      · cases e
theorem reads_key {h : Heap} {n : Nat} {st : Sto} {k : MV} {d : PD} {k' : Key} {u : Value} (e : toPD n st k = some d) (hk : keyV k = some k') (q : keyIs k' u = true) : Reads h u (pyD d) [] := by
  cases n with
  | zero => simp [toPD] at e
  | succ n =>
    cases k with
    | int i =>
      simp [toPD] at e
      subst e
      cases hk
      rcases keyIs_shape q with ⟨j, t, e1, rfl⟩ | ⟨x, t, e1, rfl⟩
      · cases e1; exact .int i t
      · cases e1
    | str s =>
      simp [toPD] at e
      subst e
      cases hk
      rcases keyIs_shape q with ⟨j, t, e1, rfl⟩ | ⟨x, t, e1, rfl⟩
      · cases e1
      · cases e1; exact .str _ t
    | _ => cases hk
theorem reads_flat {P : Program} {w : World} {K : PySem.W.Frag} {g : Mu} {I : Hp} {h : Heap} {n : Nat} {st : Sto} : ∀ {kvs : List (MV × MV)} {ws : List (Key × V)} {vs : List (Key × Value)} {es : List DictEntry} {ds : List (PD × PD)},
    RepKV K g I kvs ws → KV ws vs → Pairs (mixKind P w) es vs → (kvs.mapM fun (k, v) => do pure (← toPD n st k, ← toPD n st v)) = some ds → (ds.all fun kv => kv.1.scal && kv.2.scal) = true →
    ReadsAll h (es.map (·.key)) ((pyDk ds).map (·.1)) [] ∧ ReadsAll h (es.map (·.val)) ((pyDk ds).map (·.2)) []
  | [], ws, vs, es, ds, r, kv, pr, e, _ => by
    cases r
    cases kv
    cases pr
    simp at e
    subst e
    exact ⟨.nil, .nil⟩
  | (k, x) :: kvs, ws, vs, es, ds, r, kv, pr, e, hs => by
    cases r with
    | cons h1 h2 h3 =>
      cases kv with
      | cons q1 q2 =>
        obtain ⟨a1, a2⟩ := q1
        cases pr with
        | cons p1 p2 p3 =>
          obtain ⟨y, dr, e1, e3, rfl⟩ := mapM_cons_some e
          have e1 : (do pure (← toPD n st k, ← toPD n st x)) = some y := e1
          cases f1 : toPD n st k with
          | none => rw [f1] at e1; cases e1
          | some d1 =>
            cases f2 : toPD n st x with
            | none => rw [f1, f2] at e1; cases e1
            | some d2 =>
              rw [f1, f2] at e1
              cases e1
              simp only [List.all_cons, Bool.and_eq_true] at hs
              obtain ⟨i1, i2⟩ := reads_flat (h := h) h3 q2 p3 e3 hs.2
              refine ⟨.cons (as := []) (bs := []) (reads_key f1 h1 ?_) i1, .cons (as := []) (bs := []) (reads_sc f2 hs.1.2 h2 ?_) i2⟩
              · have a1 : _ = _ := a1
                rw [← a1] at p1
                exact p1
              · have p2 : _ = _ := p2
                show RelV _ (DictEntry.val _)
                rw [p2]; exact a2
theorem depth_sc {d : PD} (h : d.scal = true) : (pyD d).depth = 0 := by
  cases d <;> first | rfl | (simp [PD.scal] at h; done) | simp [pyD, PyData.depth]
theorem depth_kv : ∀ {kvs : List (PD × PD)}, (kvs.all fun kv => kv.1.scal && kv.2.scal) = true → PyData.depthKv (pyDk kvs) = 0
  | [], _ => rfl
  | (k, v) :: r, h => by
    simp only [List.all_cons, Bool.and_eq_true] at h
    have e1 := depth_sc h.1.1
    have e2 := depth_sc h.1.2
    have e3 := depth_kv h.2
    simp only [pyDk, PyData.depthKv]
    omega
theorem repr_ok {X : Cx} (hg : X.A.guards = some []) (hu : X.A.units + 65 < cLine) {x : MV} {v : V} {d : PD} {Q : Post} (S : Sim X.K cl g I F H st) (rx : RepV X.K g I x v) (h : toPD 30 st x = some d) (h1 : d.shw = true) (h2' : d.nodic = true ∨ d.flat = true) (h3 : (rpD d).length ≤ big)
    (q : Q (.str (rpD d)) st) : cSem X (.builtin "repr") [v] H (QV X.K cl g I F Q) := by
  intro pins s σ us J r
  obtain ⟨u, rfl, ru⟩ := r.one
  have hz : (pyD d).shown.length ≤ sizeLine := by rw [← len_rp, ← big_eq]; exact h3
  have fin : ∀ {s' : Shared} {t : Tok}, Inv X pins σ H s' → EP X pins σ (QV X.K cl g I F Q) (.str (pyD d).shown t) s' := fun {s' t} J' => ⟨.str (pyD d).shown, H, J', ⟨_, rfl⟩, by rw [← toS_rp]; exact QV.str S q⟩
  rcases h2' with h2 | h2
  case inr =>
    cases d with
    | dic kvs =>
      have h2 : (kvs.all fun kv => kv.1.scal && kv.2.scal) = true := h2
      cases x with
      | ref a =>
        obtain ⟨p, hp, rfl⟩ := rx
        cases ru
        simp only [toPD] at h
        split at h
        · simp at h
        · rename_i lk kvs0 hs
          simp only [Option.map_eq_some_iff] at h
          obtain ⟨ds, e0, e1⟩ := h
          cases e1
          have R := S.at_ hp hs
          obtain ⟨ws, rd, rk⟩ : ∃ ws, Rd H p (.dK ws) ∧ RepKV X.K g I kvs0 ws := by
            cases lk with
            | false => obtain ⟨ws, a1, a2⟩ := R; exact ⟨ws, .inl a1, a2⟩
            | true => obtain ⟨o, ws, a1, a2, _⟩ := R; exact ⟨ws, .inr ⟨o, a1⟩, a2⟩
          obtain ⟨_, ne, vs, kv, o, es, ep, ho, hx, hd, _, pr, _⟩ := rd.ok J.hok
          obtain ⟨q1, q2⟩ := reads_flat (h := s.heap) rk kv pr e0 h2
          have R1 : Reads s.heap (.ref p) (.dict (pyDk kvs)) (p :: [] ++ []) := .dict ho hx.1 hd q1 q2
          have dd : (PyData.dict (pyDk kvs)).depth ≤ 1 := by
            have : PyData.depthKv (pyDk kvs) = 0 := depth_kv h2
            simp only [PyData.depth, this]
            omega
          refine repr_of_reads' (h₀ := s.heap) R1 (shw_py _ h1) (fun _ => ?_) hg (by omega) (fun _ _ e => e) (fun h' t tk hk => fin (J.kept (t' := tk) hk)) hz
          simp only [List.append_nil, List.mem_singleton]
          intro z
          rw [← z] at ne
          simp at ne
        · cases h
      | tup xs =>
        simp only [toPD, Option.map_eq_some_iff] at h
        obtain ⟨_, _, h⟩ := h
        cases h
      | lsv xs =>
        simp only [toPD, Option.map_eq_some_iff] at h
        obtain ⟨_, _, h⟩ := h
        cases h
      | _ => simp [toPD] at h
    | _ => simp [PD.flat] at h2
  have D := dp_of S 30 x d v h2 h rx
  have dl := depth_le 30 st x d h2 h
  obtain ⟨as, rd⟩ := D.reads J (pyD d) v u ru
  cases d with
  | non => cases D; cases ru; exact PySem.P.repr_of_none (fin (J.tok _))
  | bl b => cases D; cases ru; exact PySem.P.repr_of_bool (fin (J.tok _))
  | int i =>
    cases D
    obtain ⟨t, rfl⟩ := ru
    refine PySem.P.repr_of_int ?_ (fin (J.tok _))
    simp only [PD.shw, decide_eq_true_eq] at h1
    exact Nat.lt_trans (PySem.Flt.log2_lt_of (by decide) h1) (by decide)
  | str z =>
    cases D
    obtain ⟨t, rfl⟩ := ru
    exact PySem.P.repr_of_str (fin (J.tok _)) hz
  | lst xs =>
    obtain ⟨a, rfl⟩ : ∃ a, u = .ref a := by cases rd; exact ⟨_, rfl⟩
    refine repr_of_reads' (h₀ := s.heap) rd (shw_py _ h1) (fun e => by rw [nodic_py _ h2] at e; cases e) hg (by omega) (fun _ _ e => e) (fun h' t tk hk => fin (J.kept (t' := tk) hk)) hz
  | tup xs =>
    obtain ⟨a, rfl⟩ : ∃ a, u = .ref a := by cases rd; exact ⟨_, rfl⟩
    refine repr_of_reads' (h₀ := s.heap) rd (shw_py _ h1) (fun e => by rw [nodic_py _ h2] at e; cases e) hg (by omega) (fun _ _ e => e) (fun h' t tk hk => fin (J.kept (t' := tk) hk)) hz
  | dic xs => simp [PD.nodic] at h2
theorem uniq_max {ns : List Int} {m k : Int} (h1 : m ∈ ns) (h2 : ∀ y ∈ ns, y ≤ m) (h3 : k ∈ ns) (h4 : ∀ y ∈ ns, y ≤ k) : k = m := Int.le_antisymm (h2 _ h3) (h4 _ h1)
theorem uniq_min {ns : List Int} {m k : Int} (h1 : m ∈ ns) (h2 : ∀ y ∈ ns, m ≤ y) (h3 : k ∈ ns) (h4 : ∀ y ∈ ns, k ≤ y) : k = m := Int.le_antisymm (h4 _ h1) (h2 _ h3)
theorem rep_tupOf {xs : List MV} {p : Addr} {vs : List V} (h1 : SqT K I p vs) (h2 : RepVs K g I xs vs) : RepV K g I (.tup xs) (.ref p) := ⟨p, vs, rfl, h1, h2⟩
section
open PySem.Spec PyProof.Rows PySem.AutoSeq1
variable {prog : Program} {w : World} {A : Around} {E : Value → Shared → Prop} {s : Shared} {T : String} {r d : Addr} {n : Nat} {P : Nat → Value → Prop} {OK : Heap → Prop}
theorem code_tupD {Q₁ : Value → Shared → Prop} (K : PySem.W.KdlSrc prog w T r d n P OK) (hTT : T = "dict") (hh : A.handled = none) (hok : OK s.heap) (hn : n ≤ sizeLine)
    (h : ∀ (h' : Heap) (tk : Nat) (acc : Array Value), (∀ b o, s.heap.get? b = some o → h'.get? b = some o) → ItemsOf P acc n →
      Q₁ (.ref h'.objs.size) { s with heap := h'.push { cls := .type "tuple", data := .seq acc }, toks := tk }) :
    codeAny (model prog w) A (.call (.builtin "tuple.__new__") ⟨[.type "tuple", .ref r], []⟩) (wants Q₁ E) s := by
  subst hTT
  refine codeAny_of_tree ?_
  show wpAny _ A.in1 (do checkBuiltinCall "tuple.__new__" ⟨[.type "tuple", .ref r], []⟩; again (.builtin "tuple.__new__" ⟨[.type "tuple", .ref r], []⟩)) _ _ s
  refine wpAny_bind (wpAny_of_eq (F.newCall_tuple_1 _) (wpAny_pure ⟨plainId_quiet F.plain_tuple_new _, codeAny_builtin F.entry_tuple_new ?_⟩))
  rw [Around.under_plainId F.plain_tuple_new _]
  have hsub := sub_tuple_self
  have hinit := init_tuple_lookup
  have hmh := madeHere_tuple
  have hTI : s.TypeIs (.ref r) "dict" := K.type _ hok
  have hh1 : A.in1.handled = none := hh
  wp_walk using wpAny_typeOf hTI, PySem.W.kdu_collect (A := A.in1) K hh1 hok hn
  intro h' tk acc hk hacc
  show wpAny _ _ (Builtin.Tuple.tupleExact acc.toList.toArray >>= fun v => ret v) _ _ _
  unfold Builtin.Tuple.tupleExact
  refine wpAny_bind (wpAny_newObj_type ?_ (by show acc.toList.toArray.size ≤ sizeLine; simp only [Array.toArray_toList]; rw [hacc.1]; exact hn))
  refine wpAny_pure ?_
  have e : acc.toList.toArray = acc := by simp
  rw [e]
  exact h h' tk acc hk hacc
theorem call_tupDsrc {Q : Value → Shared → Prop} (K : PySem.W.KdlSrc prog w T r d n P OK) (hTT : T = "dict") (hh : A.handled = none) (hok : OK s.heap) (hn : n ≤ sizeLine)
    (hQ : ∀ (h' : Heap) (tk : Nat) (acc : Array Value), (∀ b o, s.heap.get? b = some o → h'.get? b = some o) → ItemsOf P acc n →
      Q (.ref h'.objs.size) { s with heap := h'.push { cls := .type "tuple", data := .seq acc }, toks := tk }) :
    wpAny (model prog w) A (call (.type "tuple") [.ref r]) Q E s := by
  refine callType_codes (Q₁ := fun obj s₁ => s₁.TypeIs obj "tuple" ∧ Q obj s₁) F.called_tuple (F.typeCall_tuple_1 _) F.entry_object_init
    (code_tupD (A := A.in1) K hTT hh hok hn fun h' tk acc hk hacc => ⟨⟨_, Heap.get?_push_size _ rfl, rfl⟩, hQ h' tk acc hk hacc⟩) fun obj s₁ h₁ => ?_
  exact ⟨h₁.1, F.args_object_init_2 obj _, object_init_meets F.called_tuple.init.lookup F.called_tuple.made (by decide) prog w A.in1 _ s₁ ⟨h₁.1, rfl, h₁.2⟩⟩
end
theorem call_tupD {X : Cx} (hc : X.calm = true) : CallR X (.type "tuple") (fun xs H Q => ∃ (a : Addr) (kvs : List (Key × V)), xs = [.ref a] ∧ Rd H a (.dK kvs) ∧ ∀ p, H p = none → Q (.ref p) (upd H p (.tup (kvs.map fun kv => kV kv.1)))) := by
  intro pins s σ H xs us Q I r q
  obtain ⟨a, kvs, ex, hd, q⟩ := q
  subst ex
  obtain ⟨u, eu, rx⟩ := vals1 r
  subst eu
  cases rx
  obtain ⟨z, lo, vs, rel, dd⟩ := dk_rd I.hok hd
  obtain ⟨ep, hat⟩ := dd.dictAt
  have ek : (kvs.map fun kv => kV kv.1) = vs.map fun p => kV p.1 := by
    have e := congrArg (List.map kV) rel.keys
    rw [List.map_map, List.map_map] at e
    exact e
  refine call_tupDsrc (PySem.W.kdl_dict (knd := mixKind X.prog X.w) (kvs := vs) (ep := ep) lo) rfl (I.ok.hd hc) hat (by rw [← rel.length]; exact z) fun h' tk acc hk hacc => ?_
  have hv : Vals (vs.map fun p => kV p.1) acc.toList := keys_at (by rw [Array.length_toList]; exact hacc.1) fun j v e => hacc.2 j v (by rw [← Array.getElem?_toList]; exact e)
  have I2 : Inv X pins σ H { s with heap := h', toks := tk } := I.kept hk
  refine ⟨.ref h'.objs.size, upd H h'.objs.size (.tup (kvs.map fun kv => kV kv.1)), I2.laid (t' := tk) (fun b o e => Heap.get?_push_of_some _ e) (Nat.le_refl _)
    (show ObjOk X.prog X.w _ _ _ (.tup (kvs.map fun kv => kV kv.1)) from ⟨by rw [List.length_map]; exact z, acc.toList, by rw [ek]; exact hv, by rw [Array.toArray_toList]; exact PyProof.Rows.IsTup.new _ _⟩), rfl, q _ (I2.hok.fresh (Nat.le_refl _))⟩

theorem pair_of {K : PySem.W.Frag} {g : Mu} {I : Hp} {pr : Int × Int} {u : V} (r : RepV K g I (prV pr) u) : ∃ t, u = .ref t ∧ SqT K I t [.int pr.1, .int pr.2] := by
  obtain ⟨t, vs, rfl, h1, h2⟩ := r
  obtain ⟨v1, r1, rfl, h3, v2, r2, rfl, h4, h5⟩ := h2
  cases h3; cases h4; cases h5
  exact ⟨t, rfl, h1⟩
open Classical in
theorem sorted_ok {X : Cx} {ps : List (Int × Int)} {us : List V} {Q : Post} {a : Nat} {p : Addr} (S : Sim X.K cl g I F H st) (hp : g a = some p) (e1 : H p = some (.lst us)) (r1 : RepVs X.K g I (ps.map prV) us)
    (q : ∀ qs, List.Perm qs ps → List.Pairwise prLe qs → Q (.ref st.length) (st ++ [.lst (qs.map prV)])) : cSem X (bval .sorted) [.ref p] H (QV X.K cl g I F Q) := by
  intro pins s σ us2 I0 rv2
  let k : V → Int × Int := fun u => if h : ∃ ij : Int × Int, ∃ t, u = V.ref t ∧ SqT X.K H t [.int ij.1, .int ij.2] then h.choose else (0, 0)
  have hk : ∀ (u : V) (ij : Int × Int) (t : Addr), u = .ref t → SqT X.K H t [.int ij.1, .int ij.2] → k u = ij := by
    intro u ij t e hs
    have hx : ∃ ij : Int × Int, ∃ t, u = V.ref t ∧ SqT X.K H t [.int ij.1, .int ij.2] := ⟨ij, t, e, hs⟩
    have hd : k u = hx.choose := dif_pos hx
    rw [hd]
    obtain ⟨t', e', hs'⟩ := hx.choose_spec
    rw [e] at e'; cases e'
    have z := I0.tuple_inj hs' hs
    simp only [List.cons.injEq, V.int.injEq, and_true] at z
    exact Prod.ext z.1 z.2
  have lu := r1.len
  rw [List.length_map] at lu
  have hu : ∀ (i : Nat) (u : V) (pr : Int × Int), us[i]? = some u → ps[i]? = some pr → RepV X.K g I (prV pr) u := fun i u pr h1 h2 => by
    obtain ⟨v, hv, rv⟩ := r1.get (i := i) (x := prV pr) (by rw [List.getElem?_map, h2]; rfl)
    rw [h1] at hv; cases hv
    exact rv
  have hku : ∀ (i : Nat) (u : V), us[i]? = some u → ∃ pr, ps[i]? = some pr ∧ k u = pr ∧ RepV X.K g I (prV pr) u := fun i u h1 => by
    have hi : i < ps.length := by have := (List.getElem?_eq_some_iff.mp h1).1; omega
    have h2 := List.getElem?_eq_getElem hi
    have rv := hu i u _ h1 h2
    obtain ⟨t, e, hs⟩ := pair_of rv
    exact ⟨_, h2, hk u _ t e (S.ih.tup hs), rv⟩
  have em : us.map k = ps := by
    refine List.ext_getElem? fun i => ?_
    rw [List.getElem?_map]
    cases h1 : us[i]? with
    | none =>
      have : ps.length ≤ i := by have := List.getElem?_eq_none_iff.mp h1; omega
      rw [List.getElem?_eq_none this]; rfl
    | some u =>
      obtain ⟨pr, h2, h3, _⟩ := hku i u h1
      rw [h2, ← h3]; rfl
  have hm : ∀ u ∈ us, RepV X.K g I (prV (k u)) u := fun u hu' => by
    obtain ⟨i, hi, rfl⟩ := List.mem_iff_getElem.mp hu'
    obtain ⟨pr, _, h3, h4⟩ := hku i _ (List.getElem?_eq_getElem hi)
    rw [h3]; exact h4
  refine cSem_of cr_sortedPT ⟨p, us, k, rfl, SqL.of e1, fun x hx => ?_, fun zs d h1 h2 hd => ?_⟩ pins s σ us2 I0 rv2
  · obtain ⟨t, e, hs⟩ := pair_of (hm x hx)
    exact ⟨t, e, S.ih.tup hs⟩
  · refine new_list S (mx := (zs.map k).map prV) (RepVs.of_get (by simp) fun i x v hx hv => ?_) (q _ (by rw [← em]; exact h2.perm.map k) ?_) hd
    · rw [List.getElem?_map, List.getElem?_map, hv] at hx
      cases hx
      exact hm v (h2.perm.mem_iff.mp (List.mem_of_getElem? hv))
    · rw [List.pairwise_map]
      refine h1.imp fun {x y} h => ?_
      have := SrtO.lexB_no.mp h
      show (k x).1 < (k y).1 ∨ ((k x).1 = (k y).1 ∧ (k x).2 ≤ (k y).2)
      omega
theorem blt_ok {X : Cx} (hc : X.calm = true) (hg : X.A.guards = some []) (hu : X.A.units + 65 < cLine) (b : Blt) {xs : List MV} {vs : List V} {Q : Post} (S : Sim X.K cl g I F H st) (rx : RepVs X.K g I xs vs) (h : opBlt rpD b xs st Q) :
    cSem X (bval b) vs H (QV X.K cl g I F Q) := by
  unfold opBlt at h
  split at h
  · -- len str
    obtain ⟨v, rfl, r⟩ := rx.one
    cases r
    obtain ⟨hl, q⟩ := h
    refine cSem_of call_len_str ⟨_, rfl, by rw [len_arr, ← big_eq]; exact hl, ?_⟩
    rw [len_arr]
    exact QV.int S q
  · -- len tup
    obtain ⟨v, rfl, r⟩ := rx.one
    obtain ⟨p, us, rfl, h1, h2⟩ := r
    refine cSem_of call_len_seq ⟨p, us, rfl, .inr (S.ih.tup h1), ?_⟩
    rw [h2.len]
    exact QV.int S h
  · obtain ⟨v, rfl, r⟩ := rx.one
    obtain ⟨p, us, rfl, h1, h2⟩ := r
    refine cSem_of call_len_seq ⟨p, us, rfl, .inl (S.ih.lst h1), ?_⟩
    rw [h2.len]
    exact QV.int S h
  · -- len ref
    obtain ⟨v, rfl, r⟩ := rx.one
    obtain ⟨p, hp, rfl⟩ := r
    split at h
    · rename_i ys hs
      obtain ⟨us, e1, r1⟩ := S.at_ hp hs
      refine cSem_of call_len_seq ⟨p, us, rfl, .inl (SqL.of e1), ?_⟩
      rw [r1.len]
      exact QV.int S h
    · rename_i kvs hs
      obtain ⟨ws, e1, r1⟩ := S.at_ hp hs
      refine cSem_of call_lenD ⟨p, ws, rfl, e1, ?_⟩
      rw [r1.len]
      exact QV.int S h
    · exact h.elim
  · obtain ⟨v, rfl, r⟩ := rx.one
    cases r
    exact cSem_of call_abs ⟨_, rfl, QV.int S h⟩
  · obtain ⟨v, rfl, r⟩ := rx.one
    cases r
    exact cSem_of call_int1 (.inl ⟨_, rfl, QV.int S h⟩)
  · obtain ⟨v, rfl, r⟩ := rx.one
    cases r
    exact cSem_of call_int1 (.inr ⟨_, rfl, QV.int S h⟩)
  · obtain ⟨v, rfl, r⟩ := rx.one
    cases r
    obtain ⟨i, hi, q⟩ := h
    obtain ⟨h1, h2⟩ := int_read hi
    exact cSem_of call_int_str ⟨_, i, rfl, h1, h2, QV.int S q⟩
  · -- str
    obtain ⟨v, rfl, r⟩ := rx.one
    cases r
    obtain ⟨hi, q⟩ := h
    refine cSem_of call_str_int ⟨_, rfl, Nat.lt_trans (PySem.Flt.log2_lt_of (by decide) hi) (by decide), ?_⟩
    show QV X.K cl g I F Q (.str (Str.ofString _)) H
    rw [int_toS]
    exact QV.str S q
  · obtain ⟨v, rfl, r⟩ := rx.one
    obtain ⟨p, us, rfl, h1, h2⟩ := r
    exact cSem_of call_list_of ⟨p, us, rfl, .inr (S.ih.tup h1), fun l hl => new_list S h2 h hl⟩
  · obtain ⟨v, rfl, r⟩ := rx.one
    obtain ⟨p, us, rfl, h1, h2⟩ := r
    exact cSem_of call_list_of ⟨p, us, rfl, .inl (S.ih.lst h1), fun l hl => new_list S h2 h hl⟩
  · obtain ⟨v, rfl, r⟩ := rx.one
    obtain ⟨p, hp, rfl⟩ := r
    split at h
    · rename_i ys hs
      obtain ⟨us, e1, r1⟩ := S.at_ hp hs
      exact cSem_of call_list_of ⟨p, us, rfl, .inl (SqL.of e1), fun l hl => new_list S r1 h hl⟩
    · rename_i lk kvs hs
      obtain ⟨ws, e1, r1⟩ := dic_rd S hp hs
      exact cSem_of (call_listD hc) ⟨p, ws, rfl, e1, fun l hl => new_list S r1.keys h hl⟩
    · exact h.elim
  · obtain ⟨v, rfl, r⟩ := rx.one
    obtain ⟨p, us, rfl, h1, h2⟩ := r
    exact cSem_of call_tuple_of ⟨p, us, rfl, .inr ⟨S.ih.tup h1, QV.tup S h1 h2 h⟩⟩
  · obtain ⟨v, rfl, r⟩ := rx.one
    obtain ⟨p, us, rfl, h1, h2⟩ := r
    exact cSem_of call_tuple_of ⟨p, us, rfl, .inl ⟨S.ih.lst h1, fun l hl => new_tup S h2 h hl⟩⟩
  · obtain ⟨v, rfl, r⟩ := rx.one
    obtain ⟨p, hp, rfl⟩ := r
    split at h
    · rename_i ys hs
      obtain ⟨us, e1, r1⟩ := S.at_ hp hs
      exact cSem_of call_tuple_of ⟨p, us, rfl, .inl ⟨SqL.of e1, fun l hl => new_tup S r1 h hl⟩⟩
    · rename_i lk kvs hs
      obtain ⟨ws, e1, r1⟩ := dic_rd S hp hs
      exact cSem_of (call_tupD hc) ⟨p, ws, rfl, e1, fun l hl => new_tup S r1.keys h hl⟩
    · exact h.elim
  · obtain ⟨v, w, rfl, r, r'⟩ := rx.two
    cases r; cases r'
    exact cSem_of (call_max2 hc) ⟨_, _, rfl, QV.int S h⟩
  · obtain ⟨v, w, rfl, r, r'⟩ := rx.two
    cases r; cases r'
    exact cSem_of (call_min2 hc) ⟨_, _, rfl, QV.int S h⟩
  · obtain ⟨v, rfl, r⟩ := rx.one
    obtain ⟨p, hp, rfl⟩ := r
    obtain ⟨ns, m, hs, h1, h2, q⟩ := h
    obtain ⟨us, e1, r1⟩ := S.at_ hp hs
    rw [ints_of r1] at e1
    exact cSem_of (cr_max hc) ⟨p, ns, rfl, SqL.of e1, List.length_pos_of_mem h1, fun k h3 h4 => by rw [uniq_max h1 h2 h3 h4]; exact QV.int S q⟩
  · obtain ⟨v, rfl, r⟩ := rx.one
    obtain ⟨p, hp, rfl⟩ := r
    obtain ⟨ns, m, hs, h1, h2, q⟩ := h
    obtain ⟨us, e1, r1⟩ := S.at_ hp hs
    rw [ints_of r1] at e1
    exact cSem_of (cr_min hc) ⟨p, ns, rfl, SqL.of e1, List.length_pos_of_mem h1, fun k h3 h4 => by rw [uniq_min h1 h2 h3 h4]; exact QV.int S q⟩
  · obtain ⟨v, rfl, r⟩ := rx.one
    obtain ⟨p, hp, rfl⟩ := r
    obtain ⟨ns, hs, q⟩ := h
    obtain ⟨us, e1, r1⟩ := S.at_ hp hs
    rw [ints_of r1] at e1
    exact cSem_of (cr_sum hc) ⟨p, ns, rfl, SqL.of e1, QV.int S q⟩
  · obtain ⟨v, rfl, r⟩ := rx.one
    obtain ⟨p, hp, rfl⟩ := r
    obtain ⟨ns, hs, q⟩ := h
    obtain ⟨us, e1, r1⟩ := S.at_ hp hs
    rw [bls_of r1] at e1
    exact cSem_of (cr_all hc) ⟨p, ns, rfl, SqL.of e1, QV.bl S q⟩
  · obtain ⟨v, rfl, r⟩ := rx.one
    obtain ⟨p, hp, rfl⟩ := r
    obtain ⟨ns, hs, q⟩ := h
    obtain ⟨us, e1, r1⟩ := S.at_ hp hs
    rw [bls_of r1] at e1
    exact cSem_of (cr_any hc) ⟨p, ns, rfl, SqL.of e1, QV.bl S q⟩
  · -- sorted
    obtain ⟨v, rfl, r⟩ := rx.one
    obtain ⟨p, hp, rfl⟩ := r
    obtain ⟨ps, hs, q⟩ := h
    obtain ⟨us, e1, r1⟩ := S.at_ hp hs
    exact sorted_ok S hp e1 r1 q
  · obtain ⟨v, rfl, r⟩ := rx.one
    obtain ⟨d, h1, h2, h3, h4, q⟩ := h
    exact repr_ok hg hu S r h1 h2 h3 h4 q
  · obtain ⟨v, rfl, r⟩ := rx.one
    obtain ⟨p, hp, rfl⟩ := r
    split at h
    · rename_i ys hs
      obtain ⟨kvs, hd, q⟩ := h
      obtain ⟨us, e1, r1⟩ := S.at_ hp hs
      obtain ⟨ps, ws, rfl, h2, h3⟩ := dict_from (X := X) hd r1 .nil S.ih
      exact cSem_of (call_dictP hc) ⟨p, ps, ws, rfl, SqL.of e1, h2, fun l hl => new_dict S h3 q hl⟩
    · rename_i lk kvs hs
      obtain ⟨ws, e1, r1⟩ := dic_rd S hp hs
      exact cSem_of call_dictD ⟨p, ws, rfl, e1, fun l hl => new_dict S r1 h hl⟩
    · exact h.elim
  · exact h.elim
end
end Snd
-- S7
namespace Snd
open PySem L2 Mi

/-! ### runs -/
def RunE (X : Cx) (e : Expr) : TE := fun σ H Q => ∀ (pins : List (Addr × Obj)) (s : Shared), Inv X pins σ H s → wpAny (model X.prog X.w) X.A (eval e X.env) (EP X pins σ Q) X.xe s
def RunT (X : Cx) (e : Expr) : TT := fun σ H Q => ∀ (pins : List (Addr × Obj)) (s : Shared), Inv X pins σ H s → wpAny (model X.prog X.w) X.A (isTrue e X.env (eval e X.env)) (TP X pins σ Q) X.xe s
def RunA (X : Cx) (es : List Expr) : TA := fun σ H Q => ∀ (pos : Pos) (pins : List (Addr × Obj)) (s : Shared), Inv X pins σ H s → wpAny (model X.prog X.w) X.A (spliced (backTo pos (starEach es X.env))) (AP X pins σ Q) X.xe s
def RunS (X : Cx) (st : Stmt) : TS := fun D σ H => ∀ (pins : List (Addr × Obj)) (s : Shared), Inv X pins σ H s → wpAny (model X.prog X.w) X.A (exec st X.env) (SP X pins D) X.xe s
def RunSs (X : Cx) (st : List Stmt) : TS := fun D σ H => ∀ (pins : List (Addr × Obj)) (s : Shared), Inv X pins σ H s → wpAny (model X.prog X.w) X.A (execs st X.env) (SP X pins D) X.xe s
section
variable {X : Cx} {e : Expr} {es : List Expr} {σ : HS} {H : Hp}
theorem rE : PE X e (RunE X e) := ⟨fun pins s _ _ _ I h => h pins s I⟩
theorem rT : PT X e (RunT X e) := ⟨fun pins s _ _ _ I h => h pins s I⟩
theorem rA : PA X es (RunA X es) := ⟨fun pos pins s _ _ _ I h => h pos pins s I⟩
theorem rS {st : Stmt} : PS X st (RunS X st) := ⟨fun pins s _ _ _ I h => h pins s I⟩
theorem rSs {st : List Stmt} : PSs X st (RunSs X st) := ⟨fun pins s _ _ _ I h => h pins s I⟩
theorem run_E {t : TE} (h : PE X e t) {Q : VK} (q : t σ H Q) : RunE X e σ H Q := fun pins s I => h.run pins s σ H Q I q
theorem run_T {t : TT} (h : PT X e t) {Q : Bool → Hp → Prop} (q : t σ H Q) : RunT X e σ H Q := fun pins s I => h.run pins s σ H Q I q
theorem run_A {t : TA} (h : PA X es t) {Q : List V → Hp → Prop} (q : t σ H Q) : RunA X es σ H Q := fun pos pins s I => h.run pos pins s σ H Q I q
theorem run_S {st : Stmt} {t : TS} (h : PS X st t) {D : L2.Ends} (q : t D σ H) : RunS X st D σ H := fun pins s I => h.run pins s σ H D I q
theorem run_Ss {st : List Stmt} {t : TS} (h : PSs X st t) {D : L2.Ends} (q : t D σ H) : RunSs X st D σ H := fun pins s I => h.run pins s σ H D I q
theorem RunE.mono {Q Q' : VK} (h : RunE X e σ H Q) (hq : ∀ v H', Q v H' → Q' v H') : RunE X e σ H Q' := fun pins s I => thn (h pins s I) fun _ _ ⟨v, H', a, b, c⟩ => ⟨v, H', a, b, hq _ _ c⟩
theorem RunT.mono {Q Q' : Bool → Hp → Prop} (h : RunT X e σ H Q) (hq : ∀ v H', Q v H' → Q' v H') : RunT X e σ H Q' := fun pins s I => thn (h pins s I) fun _ _ ⟨H', a, c⟩ => ⟨H', a, hq _ _ c⟩
theorem RunA.mono {Q Q' : List V → Hp → Prop} (h : RunA X es σ H Q) (hq : ∀ v H', Q v H' → Q' v H') : RunA X es σ H Q' := fun pos pins s I => thn (h pos pins s I) fun _ _ ⟨v, H', a, b, c⟩ => ⟨v, H', a, b, hq _ _ c⟩
end

/-! ### the text matched -/
def boolOpIs : BoolOp → BoolOp → Bool
  | .And, .And => true
  | .Or, .Or => true
  | _, _ => false
def isVis (sc : Scope) (x : Str) : Bool := match sc.names.lookup x with
  | some .local => true
  | some .cell => true
  | some .free => true
  | _ => false
def isLoc (sc : Scope) (fn : Str → Bool) (x : Str) : Bool := match sc.names.lookup x with
  | some .local => true
  | some .cell => fn x
  | _ => false
theorem isLoc_ok {sc : Scope} {fn : Str → Bool} {x : Str} (h : isLoc sc fn x = true) : L2.Loc sc x ∧ (fn x = true ∨ sc.names.lookup x = some .local) := by
  unfold isLoc at h
  unfold L2.Loc
  split at h
  · rename_i e; exact ⟨.inl e, .inr e⟩
  · rename_i e; exact ⟨.inr e, .inl h⟩
  · exact absurd h Bool.false_ne_true
def isGl (sc : Scope) (x : Str) : Bool := match sc.names.lookup x with
  | some .globalImplicit => true
  | _ => false
def constIs : Const → MV → Bool
  | .none, .non => true
  | .bool a, .bl b => a == b
  | .int i, .int j => i == j
  | .str s, .str t => s.cps.toList == t
  | _, _ => false
def scEq : MV → MV → Bool
  | .non, .non => true
  | .bl a, .bl b => a == b
  | .int i, .int j => i == j
  | .str s, .str t => s == t
  | _, _ => false
def okBase : Expr → Bool
  | .Call (.Name id _) [] [] _ => id != "super"
  | _ => true
def noStar : List Expr → Bool
  | [] => true
  | .Starred _ _ :: _ => false
  | _ :: r => noStar r
def okIx : Expr → Bool
  | .Slice _ _ _ _ => false
  | _ => true
def okCmp (o : COp) (e : Expr) : Bool := match o, e with
  | .inn, .Set _ _ _ => false
  | .nin, .Set _ _ _ => false
  | _, _ => true
def copIs : COp → CmpOp → Bool
  | .eq, .Eq => true | .ne, .NotEq => true | .lt, .Lt => true | .le, .LtE => true | .gt, .Gt => true | .ge, .GtE => true | .isN, .Is => true | .notN, .IsNot => true | .inn, .In => true | .nin, .NotIn => true
  | _, _ => false
def bopIs : BOp → Operator → Bool
  | .add, .Add => true | .sub, .Sub => true | .mul, .Mult => true | .fdiv, .FloorDiv => true | .mod, .Mod => true | .pow, .Pow => true
  | _, _ => false
theorem copIs_eq {o : COp} {p : CmpOp} (h : copIs o p = true) : p = cop o := by cases o <;> cases p <;> first | rfl | exact absurd h Bool.false_ne_true
theorem bopIs_eq {o : BOp} {p : Operator} (h : bopIs o p = true) : p = bop o := by cases o <;> cases p <;> first | rfl | exact absurd h Bool.false_ne_true
def bname : Blt → String
  | .len => "len" | .abs => "abs" | .int => "int" | .str => "str" | .list => "list" | .tuple => "tuple" | .max => "max" | .min => "min"
  | .sum => "sum" | .all => "all" | .any => "any" | .sorted => "sorted" | .repr => "repr" | .dict => "dict" | .set => "set" | .range => "range"
def mname : BMt → String
  | .append => "append" | .extend => "extend" | .pop => "pop" | .index => "index" | .split => "split" | .join => "join" | .get => "get" | .upper => "upper"
def tyName : ITy → String
  | .int => "int" | .bool => "bool" | .str => "str" | .tuple => "tuple" | .list => "list" | .dict => "dict" | .own c => c

/-! ### what is stored how -/
/-- name = value: whether the block of a comprehension hands its value on -/
def swVal (sc : Scope) (value : Expr) (y : Str) (py : Pos) : Bool :=
  match value with
  | .ListComp _ _ s p => decide (sc.names.lookup y = some .local) && (py.line == p.line) && !(s.names.any fun (n, k) => n == y && (k == .local || k == .cell))
  | .SetComp _ _ s p => decide (sc.names.lookup y = some .local) && (py.line == p.line) && !(s.names.any fun (n, k) => n == y && (k == .local || k == .cell))
  | .DictComp _ _ _ s p => decide (sc.names.lookup y = some .local) && (py.line == p.line) && !(s.names.any fun (n, k) => n == y && (k == .local || k == .cell))
  | _ => false
theorem beq_loc (o : Option NameKind) : (o == some NameKind.local) = decide (o = some .local) := by
  cases o with
  | none => rfl
  | some k => cases k <;> rfl
theorem swVal_ok {env : PySem.Env} (hk : env.scope.kind = .function) (value : Expr) (y : Str) (py : Pos) (l : Nat) : swapsWith value (some (.Name y py)) l env = pure (swVal env.scope value y py) := by
  have hb : env.blockKind = .function := by unfold Env.blockKind; rw [hk]; rfl
  have e : ∀ x, env.kindOf x = env.scope.names.lookup x := fun _ => rfl
  cases value <;> first | rfl | (unfold swapsWith swVal; simp only [hb, e, beq_loc, Expr.pos]; rfl)
/-- a, b = x, y -/
def swN (sc : Scope) (ts vs : List Expr) : Option (Option (List Str)) :=
  if !(ts.length == 2 || ts.length == 3) || vs.length != ts.length then some none
  else if (vs.any fun | .Starred .. => true | _ => false) = true then some none
  else
    let line := (ts.head?.map (·.pos.line)).getD 0
    let names := ts.filterMap fun
      | .Name id pos => if sc.names.lookup id == some .local && pos.line == line then some id else none
      | _ => none
    if (names.length != ts.length || names.eraseDups.length != names.length) = true then some none
    else if vs.all (foldedForSure 8) = true then some none
    else if vs.all (constantsAlone 8) = true then none
    else some (some names)
theorem swN_ok {env : PySem.Env} (hk : env.scope.kind = .function) {ts vs : List Expr} {k k2 : Nat} {p p2 : Pos} {o : Option (List Str)} (h : swN env.scope ts vs = some o) : swappedStores [.Tuple ts k p] (.Tuple vs k2 p2) env = pure o := by
  have hb : env.blockKind = .function := by unfold Env.blockKind; rw [hk]; rfl
  have e : ∀ x, env.kindOf x = env.scope.names.lookup x := fun _ => rfl
  unfold swN at h
  unfold swappedStores
  simp only [hb, e]
  split at h
  · rename_i c
    cases h
    simp only [Bool.or_eq_true] at c ⊢
    rw [if_pos (by rcases c with c | c; exact .inl (.inl c); exact .inl (.inr c))]
  · rename_i c
    rw [if_neg (by simpa using c)]
    split at h
    · rename_i c2
      cases h
      split
      · rfl
      · rename_i d
        exact absurd c2 d
    · rename_i c2
      split
      · rename_i d
        exact absurd d c2
      · dsimp only at h ⊢
        split at h
        · rename_i c3
          cases h
          split
          · rfl
          · rename_i d
            exact absurd c3 d
        · rename_i c3
          split
          · rename_i d
            exact absurd d c3
          · split at h
            · rename_i c4
              cases h
              rw [if_pos c4]
            · rename_i c4
              rw [if_neg c4]
              split at h
              · cases h
              · rename_i c5
                rw [if_neg c5]
                cases h
                rfl
/-- no parameters -/
def noArgs : Arguments → Bool
  | ⟨[], [], none, [], [], none, []⟩ => true
  | _ => false
theorem noArgs_eq {p : Arguments} (h : noArgs p = true) : p = ⟨[], [], none, [], [], none, []⟩ := by
  obtain ⟨a, b, c, d, e, f, g⟩ := p
  unfold noArgs at h
  split at h
  · rename_i q; exact q
  · exact absurd h Bool.false_ne_true
/-- a, b = None, None / try: b = look() / except e as err: a = err / return a, b -/
def hrdB (sc : Scope) (look caught back e err : Str) : List Stmt → Bool
  | [.Assign [.Tuple [.Name c1 _, .Name b1 _] _ _] (.Tuple [.Constant .none _ _, .Constant .none _ _] _ _) _,
     .Try [.Assign [.Name b2 _] (.Call (.Name l1 _) [] [] _) _] [.ExceptHandler (some (.Name e1 _)) (some n1) [.Assign [.Name c2 _] (.Name n2 _) _] _] [] [] _,
     .Return (some (.Tuple [.Name c3 _, .Name b3 _] _ _)) _] =>
      decide (c1 = caught) && decide (c2 = caught) && decide (c3 = caught) && decide (b1 = back) && decide (b2 = back) && decide (b3 = back) && decide (l1 = look) && decide (e1 = e) && decide (n1 = err) && decide (n2 = err) &&
      decide (sc.names.lookup look = some .local) && decide (sc.names.lookup caught = some .local) && decide (sc.names.lookup back = some .local) && decide (sc.names.lookup err = some .local) && decide (sc.names.lookup e = some .globalImplicit)
  | _ => false
/-! ### own exceptions -/
section
open PySem.W PySem.Calls PyProof.Rows PyProof.V PySem.Spec
/-- the text of such an __init__ -/
structure InitT (sn vn f : Str) (scope : Scope) (body : List Stmt) : Prop where
  body : ∃ p0 p1 p2 p3 p4 p5 p6 p7 p8 p9, body = [.Expr (.Call (.Attribute (.Call (.Name "super" p0) [] [] p1) "__init__" p2) [.Name vn p3] [] p4) p5, .Assign [.Attribute (.Name sn p6) f p7] (.Name vn p8) p9] ∧ (p2.endLine == p4.line) = true
  sup : scope.names.lookup ("super" : Str) = some .globalImplicit
  cls : scope.names.lookup ("__class__" : Str) = some .free
  self : scope.names.lookup sn = some .local
  val : scope.names.lookup vn = some .local
  nocell : ∀ x ∈ scope.names, x.2 ≠ .cell
  co : scope.isCoroutine = false
  gen : scope.isGenerator = false
  kind : scope.kind = .function
  ne : sn ≠ vn
  dbs : (sn == ("__debug__" : Str)) = false
  dbv : (vn == ("__debug__" : Str)) = false
/-- what is asked of an own exception class: its __init__ says super().__init__(x); self.f = x -/
structure ExcOk (prog : Program) (K : PySem.W.Frag) (f : Str) (C : Addr) : Prop where
  oex : OexC K C
  st : nsIn K cStatics "thirdparty.any" = some none
  top : (prog.main.scope.names.lookup ("super" : Str)).isSome = false
  ve : subIn K (.ref C) (.type "ValueError") = some true
  no : findIn K (.ref C) f = some none
  ini : ∃ (name qual sn vn : Str) (params : Arguments) (body : List Stmt) (scope : Scope) (kV doc pm ct oc ccl cl : Value) (an od cdd cld : Option Addr) (osl ccs csl : Array (Option Value)) (fI cc cda D : Addr) (ar : Arg) (vs : Array Value) (file : Str) (tf : Tok) (cdD : ClassData),
    findIn K (.ref C) "__init__" = some (some (.ref fI)) ∧ typeIn K (.ref fI) = some (.type "function") ∧ InitT sn vn f scope body ∧
    K.lookup fI = some ⟨oc, od, .func (ksFn name qual params body scope .none kV doc pm an (.ref cda) ct cc), osl⟩ ∧ codeIn K (.ref cda) qual = true ∧ (params.posonlyargs ++ params.args).head? = some ar ∧ ar.arg = sn ∧
    (∀ us : List Value, us.length = 2 → bindArgs (ksFn name qual params body scope .none kV doc pm an (.ref cda) ct cc) ⟨us, []⟩ = pure ([sn, vn].zip us)) ∧
    K.lookup cda = some ⟨ccl, cdd, .fields vs, ccs⟩ ∧ vs[2]? = some (.str file tf) ∧ ((prog.main.file : Str) == file) = true ∧
    K.lookup cc = some ⟨cl, cld, .cell (some (.ref D)), csl⟩ ∧ clsIn K D = some cdD ∧ mroIn K C (.ref D) = some true ∧ ks_superIn K C D "__init__" = some (some (.builtin "ValueError.__init__"))
end
/-- what the program's top names -/
structure MT where
  gl : List (Str × MV)
  fns : List String
  cls : List String
  /-- the names of the defs that may make lambdas -/
  lam : List (List Str) := []
  /-- the defs that hear errors -/
  hrd : List Str := []
  /-- the exception classes that are made -/
  xcl : List String := []
  /-- the exception classes that isinstance tells -/
  xis : List String := []

def tgMs (N : List Str) (sc : Scope) (fn : Str → Bool) : List Nat → List Expr → Bool
  | [], [] => true
  | i :: r, .Name x _ :: es => decide (N[i]? = some x) && isLoc sc fn x && tgMs N sc fn r es
  | _, _ => false
def tg1 (N : List Str) (sc : Scope) (fn : Str → Bool) : Nat ⊕ List Nat → Expr → Bool
  | .inl i, .Name x _ => decide (N[i]? = some x) && isLoc sc fn x
  | .inr ns, .Tuple es _ _ => tgMs N sc fn ns es
  | _, _ => false
def tgM (N : List Str) (sc : Scope) (fn : Str → Bool) : ITg → Expr → Bool
  | .name i, .Name x _ => decide (N[i]? = some x) && isLoc sc fn x
  | .tup ns, .Tuple es _ _ => tgMs N sc fn ns es
  | .pr l r, .Tuple [a, b] _ _ => tg1 N sc fn l a && tg1 N sc fn r b
  | _, _ => false
theorem isVis_ok {sc : Scope} {x : Str} (h : isVis sc x = true) : Vis sc x := by
  unfold isVis at h
  unfold Vis
  split at h <;> first | (rename_i e; simp [e]; done) | exact absurd h Bool.false_ne_true

end Snd
-- S8
namespace Snd
open PySem L2 Mi

/-- what more is known of an own class -/
structure OwnF (K : PySem.W.Frag) (C : Addr) : Prop where
  cl : PySem.W.findIn K (.ref C) "__class__" = some (some (.builtin "object.__class__"))
  hn : PySem.W.specialIn K (.builtin "object.__class__") "__get__" = some (some (.builtin "getset_descriptor.__get__"))
  ht : PySem.W.takesIn K (.builtin "object.__class__") = some true
  ob : PySem.W.mroIn K C (.type "object") = some true
  ne : PySem.W.findIn K (.ref C) "__ne__" = some (some (.builtin "object.__ne__"))
  ty : PySem.W.typeIn K (.ref C) = some (.type "type")
abbrev NoX : Xp := fun _ _ _ => False
/-- the program: its tables, its text's facts -/
structure Tab where
  G : MT
  P : Prog
  prog : Program
  w : World
  K : PySem.W.Frag
  mg : Str → Option Value
  base : Heap
  cl : Kl
  ad : String → Option Addr

/-- exception classes -/
abbrev Tab.xc (T : Tab) : String → Option Addr := T.cl.x

def EnvRel (K : PySem.W.Frag) (g : Mu) (I : Hp) (env : Mi.Env) (σ : HS) : Prop := env.length = σ.length ∧ ∀ (i : Nat) (x : MV), env[i]? = some (some x) → ∃ v : V, σ[i]? = some (some v) ∧ RepV K g I x v
theorem EnvRel.mono {K : PySem.W.Frag} {g g' : Mu} {I I' : Hp} {env : Mi.Env} {σ : HS} (h : EnvRel K g I env σ) (hg : LeM g g') (hI : LeH I I') : EnvRel K g' I' env σ :=
  ⟨h.1, fun i x e => let ⟨v, a, b⟩ := h.2 i x e; ⟨v, a, b.mono hg hI⟩⟩
theorem EnvRel.set {K : PySem.W.Frag} {g : Mu} {I : Hp} {env : Mi.Env} {σ : HS} (h : EnvRel K g I env σ) (i : Nat) {x : MV} {v : V} (r : RepV K g I x v) : EnvRel K g I (env.set i (some x)) (σ.set i (some v)) := by
  refine ⟨by simp [h.1], fun j y e => ?_⟩
  by_cases c : j = i
  · subst c
    have hl : j < env.length := by have := (List.getElem?_eq_some_iff.mp e).1; simpa using this
    rw [List.getElem?_set_self hl] at e
    cases e
    exact ⟨v, List.getElem?_set_self (by rw [← h.1]; exact hl), r⟩
  · rw [List.getElem?_set_ne (Ne.symm c)] at e
    obtain ⟨w, a, b⟩ := h.2 j y e
    exact ⟨w, by rw [List.getElem?_set_ne (Ne.symm c)]; exact a, b⟩
theorem EnvRel.unset {K : PySem.W.Frag} {g : Mu} {I : Hp} {env : Mi.Env} {σ : HS} (h : EnvRel K g I env σ) (i : Nat) : EnvRel K g I (env.set i none) (σ.set i none) := by
  refine ⟨by simp [h.1], fun j y e => ?_⟩
  by_cases c : j = i
  · subst c
    have hl : j < env.length := by have := (List.getElem?_eq_some_iff.mp e).1; simpa using this
    rw [List.getElem?_set_self hl] at e
    cases e
  · rw [List.getElem?_set_ne (Ne.symm c)] at e
    obtain ⟨w, a, b⟩ := h.2 j y e
    exact ⟨w, by rw [List.getElem?_set_ne (Ne.symm c)]; exact a, b⟩
theorem EnvRel.wipe {K : PySem.W.Frag} {g : Mu} {I : Hp} {env : Mi.Env} {σ : HS} (h : EnvRel K g I env σ) : ∀ vs : List Nat, EnvRel K g I (wipeE env vs) (wipe σ vs)
  | [] => h
  | v :: vs => by
    unfold wipeE L2.wipe
    exact (EnvRel.wipe h vs).unset v

/-- an exception: of the class c, with its value -/
def ExR (T : Tab) (g : Mu) (I : Hp) (c : String) (v : MV) (cls : Value) (d : Option Addr) : Prop := ∃ (C dd : Addr) (w : V), T.xc c = some C ∧ cls = .ref C ∧ d = some dd ∧ I dd = some (.xd [("value", w)]) ∧ RepV T.K g I v w
theorem ExR.mono {T : Tab} {g g' : Mu} {I I' : Hp} {c : String} {v : MV} {cls : Value} {d : Option Addr} (hg : LeM g g') (hI : LeH I I') (h : ExR T g I c v cls d) : ExR T g' I' c v cls d := by
  obtain ⟨C, dd, w, h1, h2, h3, h4, h5⟩ := h
  exact ⟨C, dd, w, h1, h2, h3, hI _ _ h4, h5.mono hg hI⟩
/-- what is wished of an exception that leaves a call -/
def EX (T : Tab) (g : Mu) (I F : Hp) (XP : Xp) : XK := fun cls d H => ∃ g' I' c v st', LeM g g' ∧ LeH I I' ∧ Sim T.K T.cl g' I' F H st' ∧ ExR T g' I' c v cls d ∧ XP c v st'
/-- what a call of q does: level L of frames -/
def FnC (T : Tab) (Φ : Phi) (L : Nat) (q : String) (a : Addr) : Prop :=
  ∀ (A : Around) (outer : List PySem.Env) (s : Shared) (H : Hp) (us : List Value) (vs : List V) (xs : List MV) (Q : Post) (XP : Xp) (g : Mu) (I F : Hp) (st : Sto), Room L A → A.guards = some [] →
    Env0 T.prog T.w T.K T.mg T.base A outer s H → Vals vs us → Sim T.K T.cl g I F H st → RepVs T.K g I xs vs → Φ q xs st Q XP →
    codeAny (model T.prog T.w) A (.call (.ref a) ⟨us, []⟩) (CR (CX T.prog T.w) outer T.prog T.w H s (QV T.K T.cl g I F Q) (EX T g I F XP)) s

/-- a def that hears errors -/
def HeardOk (T : Tab) (f : Str) : Prop := ∃ (a CS : Addr) (st : Stmt) (fd : FuncData) (look caught back e err : Str), T.mg f = some (.ref a) ∧ L2.Fun T.K f f st a fd ∧ FnScope [look, caught, back, err] [look] (defScope st) ∧ Binds T.K fd [look] [] ∧
  hrdB (defScope st) look caught back e err (defBody st) = true ∧ (e == ("__debug__" : Str)) = false ∧ (∀ y ∈ [look, caught, back, err], (y == ("__debug__" : Str)) = false ∧ (y == ("__classdict__" : Str)) = false) ∧ Vis (defScope st) look ∧ T.mg e = some (.ref CS) ∧ ∀ c C, T.cl.x c = some C → PySem.W.exmOne T.K (.ref C) (.ref CS) = some true
/-- a def that may make lambdas -/
def LamOk (T : Tab) (L : Nat) (X : Cx) : Prop := ∃ c P, X.env.code = .ref c ∧ LamX.TabB X.base X.mg c P ∧ (P, X.env.qual ++ "<lambda>") ∈ T.cl.tabs ∧ (∀ p ∈ T.cl.tabs, p.1 = P → p.2 = X.env.qual ++ "<lambda>") ∧ Room (L + 4) X.A
/-- where one stands -/
structure COk (T : Tab) (L : Nat) (X : Cx) : Prop where
  pr : X.prog = T.prog
  w : X.w = T.w
  K : X.K = T.K
  mg : X.mg = T.mg
  ba : X.base = T.base
  calm : X.calm = true
  nd : X.N.Nodup
  room : Room (L + 2) X.A
  gu : X.A.guards = some []
  po : PassesOwn (model X.prog X.w) X.A X.env X.xe
  kind : X.env.scope.kind = .function

/-- the facts of the top -/
structure TOk (T : Tab) : Prop where
  rp : T.P.rp = rpD
  gl : ∀ x v, T.G.gl.lookup x = some v → scalar v = true ∧ ∃ u, T.mg x = some u ∧ RelV (scV v) u
  bn : ∀ b : Blt, T.mg (Str.ofString (bname b)) = none
  isi : T.mg (Str.ofString "isinstance") = none
  tys : ∀ t : ITy, (∀ c, t ≠ .own c) → T.mg (Str.ofString (tyName t)) = none
  rng : T.mg "range" = none
  enu : T.mg "enumerate" = none
  zip : T.mg "zip" = none
  fn : ∀ f, T.G.fns.contains f = true → ∃ a, T.ad f = some a ∧ T.mg (Str.ofString f) = some (.ref a) ∧ PySem.W.keepIn T.K (.ref a) = true
  cls : ∀ c, T.G.cls.contains c = true → ∃ C q, T.cl c = some C ∧ T.mg (Str.ofString c) = some (.ref C) ∧ T.P.mt c "__init__" = some q
  clk : ∀ c C, T.cl c = some C → Cls T.K C
  mt : ∀ c m q, T.P.mt c m = some q → ∃ C a, T.cl c = some C ∧ T.ad q = some a ∧ Meth T.K C (Str.ofString m) a ∧ PySem.W.fnIn T.K a = true
  mak : ∀ c q C, T.P.mt c "__init__" = some q → T.cl c = some C → ∃ a, T.ad q = some a ∧ Mk T.K C a
  pr : ∀ c f q, T.P.pr c f = some (some q) → ∃ C p a, T.cl c = some C ∧ T.ad q = some a ∧ PropOf T.K C (Str.ofString f) p a
  fl : ∀ c C f, T.cl c = some C → T.P.pr c f = some none → NoAttr T.K C (Str.ofString f)
  hrd : ∀ f, T.G.hrd.contains f = true → HeardOk T f
  exc : ∀ c, T.G.xcl.contains c = true → ∃ C, T.cl.x c = some C ∧ T.mg (Str.ofString c) = some (.ref C) ∧ ExcOk T.prog T.K "value" C ∧ T.mg "super" = none
  xk : ∀ c D, T.cl.x c = some D → L2.ExcC T.K D ∧ XfC T.K D ∧ PySem.W.findIn T.K (.ref D) "value" = some none
  own : ∀ c C, T.cl c = some C → OwnF T.K C
  iso : ∀ c C c' D, T.cl c = some C → T.cl c' = some D → PySem.W.kitOne T.K (.ref D) (.ref C) = some (c' == c)
  xv : ∀ c D, T.cl.x c = some D → PySem.W.subIn T.K (.ref D) (.type "ValueError") = some true
  ven : T.mg "ValueError" = none
  xis : ∀ c', T.G.xis.contains c' = true → ∃ C', T.mg (Str.ofString c') = some (.ref C') ∧ (PySem.W.kitOne T.K (.type "NoneType") (.ref C') = some false ∧ PySem.W.kitOne T.K (.type "ValueError") (.ref C') = some false) ∧ ∀ c D, T.cl.x c = some D → PySem.W.kitOne T.K (.ref D) (.ref C') = some (T.P.xs c c')

section
variable {T : Tab} {Φ : Phi} {L : Nat} {X : Cx}
abbrev Tab.QV (T : Tab) := Snd.QV T.K T.cl
abbrev Tab.Sim (T : Tab) := Snd.Sim T.K T.cl
/-- what is wished of an exception, told over the real heap -/
def XS (T : Tab) (g : Mu) (I F : Hp) (ex : String → MV → Mi.Env → Sto → Prop) : WX := fun cls d σ H => ∃ g' I' env' c v st', LeM g g' ∧ LeH I I' ∧ T.Sim g' I' F H st' ∧ EnvRel T.K g' I' env' σ ∧ ExR T g' I' c v cls d ∧ ex c v env' st'
theorem XS.from_ {g g1 : Mu} {I I1 F : Hp} {ex : String → MV → Mi.Env → Sto → Prop} {cls : Value} {d : Option Addr} {σ : HS} {H : Hp} (hg : LeM g g1) (hI : LeH I I1) (h : XS T g1 I1 F ex cls d σ H) : XS T g I F ex cls d σ H := by
  obtain ⟨g', I', e, c, v, st', a, b, z⟩ := h
  exact ⟨g', I', e, c, v, st', hg.trans a, hI.trans b, z⟩
abbrev atEnv (env : Mi.Env) (XP : Xp) : String → MV → Mi.Env → Sto → Prop := fun c v env' st' => env' = env ∧ XP c v st'
/-- the slots, and that X takes what is raised -/
structure ER (T : Tab) (X : Cx) (XP : Xp) (g : Mu) (I F : Hp) (env : Mi.Env) (σ : HS) : Prop where
  rel : EnvRel T.K g I env σ
  tk : Takes X (XS T g I F (atEnv env XP))
theorem ER.mono {XP : Xp} {g g' : Mu} {I I' F : Hp} {env : Mi.Env} {σ : HS} (h : ER T X XP g I F env σ) (hg : LeM g g') (hI : LeH I I') : ER T X XP g' I' F env σ :=
  ⟨h.rel.mono hg hI, h.tk.imp fun _ _ _ _ z => z.from_ hg hI⟩
theorem takes_no {W : WX} (h : ∀ c d σ H, ¬ W c d σ H) : Takes X W := fun _ _ ⟨_, _, _, _, _, _, _, _, _, _, _, _, _, _, _, _, w⟩ => absurd w (h _ _ _ _)
theorem ER.no {g : Mu} {I F : Hp} {env : Mi.Env} {σ : HS} (h : EnvRel T.K g I env σ) : ER T X NoX g I F env σ := ⟨h, takes_no fun _ _ _ _ ⟨_, _, _, _, _, _, _, _, _, _, _, _, z⟩ => z⟩
def GoodE (T : Tab) (Φ : Phi) (X : Cx) (ie : IE) (e : Expr) : Prop := ∀ (g : Mu) (I F H : Hp) (st : Sto) (env : Mi.Env) (σ : HS) (Q : Post) (XP : Xp), ER T X XP g I F env σ → T.Sim g I F H st → wpE T.P Φ ie env st Q XP → RunE X e σ H (T.QV g I F Q)
/-- a test's answer -/
def QB (T : Tab) (g : Mu) (I F : Hp) (R : Bool → MV → Sto → Prop) : Bool → Hp → Prop := fun b H' => ∃ g' I' x st', LeM g g' ∧ LeH I I' ∧ T.Sim g' I' F H' st' ∧ truth st' x = some b ∧ R b x st'
theorem QB.from_ {g g1 : Mu} {I I1 F : Hp} {R : Bool → MV → Sto → Prop} {v : Bool} {H : Hp} (hg : LeM g g1) (hI : LeH I I1) (h : QB T g1 I1 F R v H) : QB T g I F R v H := by
  obtain ⟨g', I', x, st', a, b, c⟩ := h
  exact ⟨g', I', x, st', hg.trans a, hI.trans b, c⟩
abbrev PT_ (R : Bool → MV → Sto → Prop) : Post := fun x st1 => ∃ t, truth st1 x = some t ∧ R t x st1
def GoodT (T : Tab) (Φ : Phi) (X : Cx) (ie : IE) (e : Expr) : Prop := ∀ (g : Mu) (I F H : Hp) (st : Sto) (env : Mi.Env) (σ : HS) (R : Bool → MV → Sto → Prop) (XP : Xp), ER T X XP g I F env σ → T.Sim g I F H st →
  wpE T.P Φ ie env st (fun x st1 => ∃ t, truth st1 x = some t ∧ R t x st1) XP → RunT X e σ H (QB T g I F R)
def QA (T : Tab) (g : Mu) (I F : Hp) (Q : List MV → Sto → Prop) : List V → Hp → Prop := fun vs H' => ∃ g' I' xs st', LeM g g' ∧ LeH I I' ∧ T.Sim g' I' F H' st' ∧ RepVs T.K g' I' xs vs ∧ Q xs st'
theorem QA.from_ {g g1 : Mu} {I I1 F : Hp} {Q : List MV → Sto → Prop} {v : List V} {H : Hp} (hg : LeM g g1) (hI : LeH I I1) (h : QA T g1 I1 F Q v H) : QA T g I F Q v H := by
  obtain ⟨g', I', xs, st', a, b, c⟩ := h
  exact ⟨g', I', xs, st', hg.trans a, hI.trans b, c⟩
def GoodA (T : Tab) (Φ : Phi) (X : Cx) (ia : IA) (es : List Expr) : Prop := ∀ (g : Mu) (I F H : Hp) (st : Sto) (env : Mi.Env) (σ : HS) (Q : List MV → Sto → Prop) (XP : Xp), ER T X XP g I F env σ → T.Sim g I F H st → wpA T.P Φ ia env st Q XP → RunA X es σ H (QA T g I F Q)

/-- a value, then the rest -/
theorem GoodE.then_ {ie : IE} {e : Expr} (h : GoodE T Φ X ie e) {g : Mu} {I F H : Hp} {st : Sto} {env : Mi.Env} {σ : HS} {R : Post} {XP : Xp} (er : ER T X XP g I F env σ) (S : T.Sim g I F H st) (q : wpE T.P Φ ie env st R XP) {Q : VK}
    (k : ∀ g1 I1 H1 st1 x v, LeM g g1 → LeH I I1 → T.Sim g1 I1 F H1 st1 → ER T X XP g1 I1 F env σ → RepV T.K g1 I1 x v → R x st1 → Q v H1) : RunE X e σ H Q :=
  (h g I F H st env σ R XP er S q).mono fun v H1 ⟨g1, I1, x, st1, a, b, c, d, f⟩ => k g1 I1 H1 st1 x v a b c (er.mono a b) d f
theorem GoodA.then_ {ia : IA} {es : List Expr} (h : GoodA T Φ X ia es) {g : Mu} {I F H : Hp} {st : Sto} {env : Mi.Env} {σ : HS} {R : List MV → Sto → Prop} {XP : Xp} (er : ER T X XP g I F env σ) (S : T.Sim g I F H st) (q : wpA T.P Φ ia env st R XP) {Q : List V → Hp → Prop}
    (k : ∀ g1 I1 H1 st1 xs vs, LeM g g1 → LeH I I1 → T.Sim g1 I1 F H1 st1 → ER T X XP g1 I1 F env σ → RepVs T.K g1 I1 xs vs → R xs st1 → Q vs H1) : RunA X es σ H Q :=
  (h g I F H st env σ R XP er S q).mono fun v H1 ⟨g1, I1, x, st1, a, b, c, d, f⟩ => k g1 I1 H1 st1 x v a b c (er.mono a b) d f
theorem GoodT.then_ {ie : IE} {e : Expr} (h : GoodT T Φ X ie e) {g : Mu} {I F H : Hp} {st : Sto} {env : Mi.Env} {σ : HS} {R : Bool → MV → Sto → Prop} {XP : Xp} (er : ER T X XP g I F env σ) (S : T.Sim g I F H st) (q : wpE T.P Φ ie env st (fun x st1 => ∃ t, truth st1 x = some t ∧ R t x st1) XP) {Q : Bool → Hp → Prop}
    (k : ∀ g1 I1 H1 st1 b x, LeM g g1 → LeH I I1 → T.Sim g1 I1 F H1 st1 → ER T X XP g1 I1 F env σ → truth st1 x = some b → R b x st1 → Q b H1) : RunT X e σ H Q :=
  (h g I F H st env σ R XP er S q).mono fun v H1 ⟨g1, I1, x, st1, a, b, c, d, f⟩ => k g1 I1 H1 st1 v x a b c (er.mono a b) d f

theorem COk.nd_calm (C : COk T L X) : X.calm = true := C.calm
theorem COk.u (C : COk T L X) : X.A.units + 65 < cLine := by have := C.room.un; omega

/-! ### the steps -/
theorem good_var {i : Nat} {x : Str} {pos : Pos} (hN : X.N[i]? = some x) (hv : Vis X.env.scope x) (hd : (x == ("__debug__" : Str)) = false) (hc : (x == ("__classdict__" : Str)) = false) : GoodE T Φ X (.var i) (.Name x pos) := by
  intro g I F H st env σ Q XP er S h
  obtain ⟨y, hy, q⟩ := h
  obtain ⟨v, hv', r⟩ := er.rel.2 i y hy
  exact run_E (pe_var hN hv hd hc) ⟨v, hv', QV.mk S r q⟩
theorem good_const {c : Const} {v : MV} {k : Nat} {pos : Pos} (h : constIs c v = true) : GoodE T Φ X (.con v) (.Constant c k pos) := by
  intro g I F H st env σ Q XP er S q
  replace q : Q v st := q
  cases v with
  | non => cases c <;> first | exact absurd h Bool.false_ne_true | exact run_E pe_non (QV.non S q)
  | bl b =>
    cases c <;> first | exact absurd h Bool.false_ne_true | skip
    rename_i a
    have e : a = b := by simpa [constIs] using h
    subst e
    exact run_E pe_bl (QV.bl S q)
  | int b =>
    cases c <;> first | exact absurd h Bool.false_ne_true | skip
    rename_i a
    have e : a = b := by simpa [constIs] using h
    subst e
    exact run_E pe_int (QV.int S q)
  | str b =>
    cases c <;> first | exact absurd h Bool.false_ne_true | skip
    rename_i a
    have e : a.cps.toList = b := by simpa [constIs] using h
    subst e
    refine run_E pe_str ?_
    show T.QV g I F Q (.str a) H
    have := QV.str (s := a.cps.toList) S q
    rw [show (⟨a.cps.toList.toArray⟩ : Str) = a from toS_list a] at this
    exact this
  | tup xs => cases c <;> exact absurd h Bool.false_ne_true
  | lsv xs => cases c <;> exact absurd h Bool.false_ne_true
  | ref xs => cases c <;> exact absurd h Bool.false_ne_true
theorem good_glob {v : MV} {x : Str} {pos : Pos} (TO : TOk T) (C : COk T L X) (hg : Gl X x) (hd : (x == ("__debug__" : Str)) = false) (h : T.G.gl.lookup x = some v) : GoodE T Φ X (.con v) (.Name x pos) := by
  intro g I F H st env σ Q XP er S q
  have q : Q v st := q
  obtain ⟨hs, u, hu, ru⟩ := TO.gl x v h
  refine run_E (pe_glob hg (by rw [C.mg]; exact hu) ru hd) ?_
  show T.QV g I F Q (scV v) H
  refine QV.mk (x := v) S ?_ q
  cases v <;> first | (simp [scalar] at hs; done) | rfl
theorem good_tup {es : IA} {xs : List Expr} {k : Nat} {pos : Pos} (h : GoodA T Φ X es xs) : GoodE T Φ X (.tup es) (.Tuple xs k pos) := by
  intro g I F H st env σ Q XP er S q
  refine run_E (pe_tup rA) ?_
  refine h.then_ er S q fun g1 I1 H1 st1 ys vs a b S1 _ r q1 => ⟨by rw [r.len, ← big_eq]; exact q1.1, fun p hn => QV.from_ a b (new_tup S1 r q1.2 hn)⟩
theorem good_lst {es : IA} {xs : List Expr} {pos : Pos} (h : GoodA T Φ X es xs) : GoodE T Φ X (.lst es) (.List xs pos) := by
  intro g I F H st env σ Q XP er S q
  refine run_E (pe_lst rA) ?_
  refine h.then_ er S q fun g1 I1 H1 st1 ys vs a b S1 _ r q1 => ⟨by rw [r.len, ← big_eq]; exact q1.1, fun p hn => QV.from_ a b (new_list S1 r q1.2 hn)⟩
theorem good_bin (C : COk T L X) {o : BOp} {a b : IE} {l r : Expr} {pos : Pos} (ha : GoodE T Φ X a l) (hb : GoodE T Φ X b r) : GoodE T Φ X (.bin o a b) (.BinOp l (bop o) r pos) := by
  intro g I F H st env σ Q XP er S q
  refine run_E (pe_op rSem_ok rE rE) ?_
  refine ha.then_ er S q fun g1 I1 H1 st1 x v a1 b1 S1 er1 r1 q1 => ?_
  refine hb.then_ er1 S1 q1 fun g2 I2 H2 st2 y w a2 b2 S2 er2 r2 q2 => ?_
  have K := C.K
  have := bin_ok (X := X) o (by rw [K]; exact S2) (by rw [K]; exact r1.mono a2 b2) (by rw [K]; exact r2) q2
  rw [K] at this
  exact this.mono fun _ _ z => QV.from_ (a1.trans a2) (b1.trans b2) z
theorem good_neg {a : IE} {l : Expr} {pos : Pos} (ha : GoodE T Φ X a l) : GoodE T Φ X (.neg a) (.UnaryOp .USub l pos) := by
  intro g I F H st env σ Q XP er S q
  refine run_E (pe_un un_neg rE) ?_
  refine ha.then_ er S q fun g1 I1 H1 st1 x v a1 b1 S1 er1 r1 q1 => ?_
  obtain ⟨i, rfl, q1⟩ := q1
  cases r1
  exact ⟨i, rfl, QV.from_ a1 b1 (QV.int S1 q1)⟩
theorem mark_ok {o : COp} {e : Expr} (h : okCmp o e = true) : behindInMarks (cop o) e = false := by
  cases e <;> first | rfl | skip
  cases o <;> first | exact absurd h Bool.false_ne_true | simp [behindInMarks, cop]
theorem cmp_ok' (C : COk T L X) (o : COp) {g : Mu} {I F H : Hp} {st : Sto} {x y : MV} {v w : V} {Qm : Post} (S : T.Sim g I F H st) (rx : RepV T.K g I x v) (ry : RepV T.K g I y w) (h : opCmp o x y st fun b st' => Qm (.bl b) st') :
    rSem X (compareOp (cop o)) v w H (T.QV g I F Qm) := by
  have K := C.K
  have := cmp_ok (X := X) C.u o (by rw [K]; exact S) (by rw [K]; exact rx) (by rw [K]; exact ry) h
  rw [K] at this
  exact this
theorem good_cmp (C : COk T L X) {o : COp} {a b : IE} {l r : Expr} {pos : Pos} (ha : GoodE T Φ X a l) (hb : GoodE T Φ X b r) (hm : okCmp o r = true) : GoodE T Φ X (.cmp o a b) (.Compare l [cop o] [r] pos) := by
  intro g I F H st env σ Q XP er S q
  refine run_E (pe_cmpR rSem_ok rE rE (mark_ok hm)) ?_
  refine ha.then_ er S q fun g1 I1 H1 st1 x v a1 b1 S1 er1 r1 q1 => ?_
  refine hb.then_ er1 S1 q1 fun g2 I2 H2 st2 y w a2 b2 S2 er2 r2 q2 => ?_
  exact (cmp_ok' C o S2 (r1.mono a2 b2) r2 q2).mono fun _ _ z => QV.from_ (a1.trans a2) (b1.trans b2) z
end
end Snd
-- S9
namespace Snd
open PySem L2 Mi
section
variable {T : Tab} {Φ : Phi} {L : Nat} {X : Cx}

/-! ### arguments -/
theorem star_cons {e : Expr} {es : List Expr} (env : PySem.Env) (h : noStar (e :: es) = true) : starEach (e :: es) env = (false, eval e env) :: starEach es env := by
  cases e <;> first | rfl | exact absurd h Bool.false_ne_true
theorem noStar_tail {e : Expr} {es : List Expr} (h : noStar (e :: es) = true) : noStar es = true := by
  cases e <;> first | exact h | exact absurd h Bool.false_ne_true
theorem noStar_one {e : Expr} {es : List Expr} (h : noStar (e :: es) = true) : noStar [e] = true := by
  cases e <;> first | rfl | exact absurd h Bool.false_ne_true
theorem star_free (env : PySem.Env) (pos : Pos) : ∀ {es : List Expr}, noStar es = true → (backTo pos (starEach es env)).any (·.1) = false
  | [], _ => rfl
  | e :: es, h => by
    rw [star_cons env h]
    show (false || (backTo pos (starEach es env)).any (·.1)) = false
    rw [star_free env pos (noStar_tail h)]
    rfl
theorem star_all (env : PySem.Env) (pos : Pos) : ∀ {es : List Expr}, noStar es = true → (backTo pos (starEach es env)).all (fun x => !x.1) = true
  | [], _ => rfl
  | e :: es, h => by
    rw [star_cons env h]
    show (true && (backTo pos (starEach es env)).all (fun x => !x.1)) = true
    rw [star_all env pos (noStar_tail h)]
    rfl
theorem good_anil : GoodA T Φ X .nil [] := by
  intro g I F H st env σ Q XP er S q
  exact run_A pa_nil ⟨g, I, [], st, LeM.refl _, LeH.refl _, S, rfl, q⟩
theorem good_acons {e : IE} {r : IA} {x : Expr} {xs : List Expr} (he : GoodE T Φ X e x) (hr : GoodA T Φ X r xs) (hs : noStar [x] = true) : GoodA T Φ X (.cons e r) (x :: xs) := by
  intro g I F H st env σ Q XP er S q
  have hs' : starEach (x :: xs) X.env = (false, eval x X.env) :: starEach xs X.env := by
    cases x <;> first | rfl | exact absurd hs Bool.false_ne_true
  refine run_A (pa_cons rE rA hs') ?_
  refine he.then_ er S q fun g1 I1 H1 st1 y v a1 b1 S1 er1 r1 q1 => ?_
  refine hr.then_ er1 S1 q1 fun g2 I2 H2 st2 ys vs a2 b2 S2 er2 r2 q2 => ?_
  exact ⟨g2, I2, y :: ys, st2, a1.trans a2, b1.trans b2, S2, ⟨v, vs, rfl, r1.mono a2 b2, r2⟩, q2⟩
theorem good_astar (C : COk T L X) {e : IE} {r : IA} {x : Expr} {xs : List Expr} {p : Pos} (he : GoodE T Φ X e x) (hr : GoodA T Φ X r xs) : GoodA T Φ X (.star e r) (.Starred x p :: xs) := by
  intro g I F H st env σ Q XP er S q
  refine run_A (StX.pa_star rE rA rfl) ?_
  refine he.then_ er S q fun g1 I1 H1 st1 y v a1 b1 S1 er1 r1 q1 => ?_
  obtain ⟨zs, hz, q1⟩ := q1
  have K := C.K
  have z := seqL_of (X := X) (by rw [K]; exact S1) (v := v) (xs := zs) (x := y) (by rw [K]; exact r1) hz
  obtain ⟨p, vs, rfl, h2, r2⟩ := z
  refine ⟨p, vs, rfl, h2.symm, ?_⟩
  rw [K] at r2
  refine hr.then_ er1 S1 q1 fun g2 I2 H2 st2 ys ws a2 b2 S2 er2 r3 q2 => ?_
  exact ⟨g2, I2, zs ++ ys, st2, a1.trans a2, b1.trans b2, S2, (r2.mono a2 b2).app r3, q2⟩

/-! ### a test -/
theorem truth_bl {st : Sto} {b t : Bool} (h : truth st (.bl b) = some t) : t = b := by cases h; rfl
/-- the value is asked -/
theorem good_truth (C : COk T L X) {ie : IE} {e : Expr} (h : GoodE T Φ X ie e) (he : ∀ whole, isTrue e X.env whole = (do let v ← whole; standAt e.pos; holding [v] (truthy v))) : GoodT T Φ X ie e := by
  intro g I F H st env σ R XP er S q
  refine run_T (pt_truth rE he) ?_
  refine h.then_ er S q fun g1 I1 H1 st1 y v a1 b1 S1 er1 r1 q1 => ?_
  obtain ⟨t, ht, q1⟩ := q1
  have K := C.K
  have z := truth_ok S1 r1 ht
  exact ⟨t, by rw [K]; exact z, g1, I1, y, st1, a1, b1, S1, ht, q1⟩
theorem tru_of (C : COk T L X) {g : Mu} {I F H : Hp} {st : Sto} {x : MV} {v : V} {b : Bool} (S : T.Sim g I F H st) (r : RepV T.K g I x v) (h : truth st x = some b) : TruV X.K v H b := by
  rw [C.K]; exact truth_ok S r h
/-- a value that is a bool -/
theorem bl_post (R : Bool → MV → Sto → Prop) : (fun (t : Bool) (st3 : Sto) => ∃ t_1, truth st3 (.bl t) = some t_1 ∧ R t_1 (.bl t) st3) = (fun t st3 => (fun (x : MV) st3 => ∃ k, x = .bl k ∧ R k (.bl k) st3) (.bl t) st3) := by
  funext t st3
  apply propext
  exact ⟨fun ⟨u, h1, h2⟩ => ⟨u, by rw [truth_bl h1], by rw [truth_bl h1] at h2 ⊢; exact h2⟩, fun ⟨u, h1, h2⟩ => by cases h1; exact ⟨t, rfl, h2⟩⟩
theorem good_cmpT (C : COk T L X) {o : COp} {a b : IE} {l r : Expr} {pos : Pos} (ha : GoodE T Φ X a l) (hb : GoodE T Φ X b r) (hm : okCmp o r = true) : GoodT T Φ X (.cmp o a b) (.Compare l [cop o] [r] pos) := by
  intro g I F H st env σ R XP er S q
  refine run_T (pt_cmpR rSem_ok rE rE (mark_ok hm)) ?_
  refine ha.then_ er S q fun g1 I1 H1 st1 x v a1 b1 S1 er1 r1 q1 => ?_
  refine hb.then_ er1 S1 q1 fun g2 I2 H2 st2 y w a2 b2 S2 er2 r2 q2 => ?_
  rw [bl_post] at q2
  refine (cmp_ok' (Qm := fun (x : MV) st3 => ∃ k, x = .bl k ∧ R k (.bl k) st3) C o S2 (r1.mono a2 b2) r2 q2).mono fun z H3 hz => ?_
  obtain ⟨g3, I3, zm, st3, a3, b3, S3, r3, k, rfl, q3⟩ := hz
  exact ⟨k, r3, g3, I3, .bl k, st3, (a1.trans a2).trans a3, (b1.trans b2).trans b3, S3, rfl, q3⟩

/-! ### and, or, not, a choice: as values -/
theorem good_one {op : BoolOp} {a : IE} {x : Expr} {pos : Pos} (h : GoodE T Φ X a x) : GoodE T Φ X a (.BoolOp op [x] pos) := by
  intro g I F H st env σ Q XP er S q
  exact run_E (pe_one rE) (h g I F H st env σ Q _ er S q)
theorem good_and (C : COk T L X) {a b : IE} {x y : Expr} {r : List Expr} {pos : Pos} (ha : GoodE T Φ X a x) (hb : GoodE T Φ X b (.BoolOp .And (y :: r) pos)) : GoodE T Φ X (.and a b) (.BoolOp .And (x :: y :: r) pos) := by
  intro g I F H st env σ Q XP er S q
  refine run_E (pe_andT rE rE) ?_
  refine ha.then_ er S q fun g1 I1 H1 st1 y v a1 b1 S1 er1 r1 q1 => ?_
  obtain ⟨t, ht, q1⟩ := q1
  refine ⟨t, tru_of C S1 r1 ht, ?_⟩
  cases t with
  | true => exact (hb g1 I1 F H1 st1 env σ Q _ er1 S1 q1).mono fun _ _ z => QV.from_ a1 b1 z
  | false => exact QV.from_ a1 b1 (QV.mk S1 r1 q1)
theorem good_or (C : COk T L X) {a b : IE} {x y : Expr} {r : List Expr} {pos : Pos} (ha : GoodE T Φ X a x) (hb : GoodE T Φ X b (.BoolOp .Or (y :: r) pos)) : GoodE T Φ X (.or a b) (.BoolOp .Or (x :: y :: r) pos) := by
  intro g I F H st env σ Q XP er S q
  refine run_E (pe_orT rE rE) ?_
  refine ha.then_ er S q fun g1 I1 H1 st1 y v a1 b1 S1 er1 r1 q1 => ?_
  obtain ⟨t, ht, q1⟩ := q1
  refine ⟨t, tru_of C S1 r1 ht, ?_⟩
  cases t with
  | false => exact (hb g1 I1 F H1 st1 env σ Q _ er1 S1 q1).mono fun _ _ z => QV.from_ a1 b1 z
  | true => exact QV.from_ a1 b1 (QV.mk S1 r1 q1)
theorem good_not (C : COk T L X) {a : IE} {x : Expr} {pos : Pos} (ha : GoodE T Φ X a x) : GoodE T Φ X (.not a) (.UnaryOp .Not x pos) := by
  intro g I F H st env σ Q XP er S q
  refine run_E (pe_notT rE) ?_
  refine ha.then_ er S q fun g1 I1 H1 st1 y v a1 b1 S1 er1 r1 q1 => ?_
  obtain ⟨t, ht, q1⟩ := q1
  exact ⟨t, tru_of C S1 r1 ht, QV.from_ a1 b1 (QV.bl S1 q1)⟩
theorem good_ite {c a b : IE} {x y z : Expr} {pos : Pos} (hc : GoodT T Φ X c x) (ha : GoodE T Φ X a y) (hb : GoodE T Φ X b z) : GoodE T Φ X (.ite c a b) (.IfExp x y z pos) := by
  intro g I F H st env σ Q XP er S q
  refine run_E (pe_ifExp rT rE rE) ?_
  refine hc.then_ er S q fun g1 I1 H1 st1 t x a1 b1 S1 er1 ht q1 => ?_
  cases t with
  | true => exact (ha g1 I1 F H1 st1 env σ Q _ er1 S1 q1).mono fun _ _ z => QV.from_ a1 b1 z
  | false => exact (hb g1 I1 F H1 st1 env σ Q _ er1 S1 q1).mono fun _ _ z => QV.from_ a1 b1 z

/-! ### .. as tests -/
def RunW (X : Cx) (e : Expr) : TT := fun σ H Q => ∀ (whole : Sem Value) (pins : List (Addr × Obj)) (s : Shared), Inv X pins σ H s → wpAny (model X.prog X.w) X.A (isTrue e X.env whole) (TP X pins σ Q) X.xe s
theorem rW {e : Expr} : PW X e (RunW X e) := ⟨fun wh pins s _ _ _ I h => h wh pins s I⟩
def GoodW (T : Tab) (Φ : Phi) (X : Cx) (ie : IE) (e : Expr) : Prop := ∀ (g : Mu) (I F H : Hp) (st : Sto) (env : Mi.Env) (σ : HS) (R : Bool → MV → Sto → Prop) (XP : Xp), ER T X XP g I F env σ → T.Sim g I F H st →
  wpE T.P Φ ie env st (fun x st1 => ∃ t, truth st1 x = some t ∧ R t x st1) XP → RunW X e σ H (QB T g I F R)
theorem RunW.mono {e : Expr} {σ : HS} {H : Hp} {Q Q' : Bool → Hp → Prop} (h : RunW X e σ H Q) (hq : ∀ v H', Q v H' → Q' v H') : RunW X e σ H Q' := fun wh pins s I => thn (h wh pins s I) fun _ _ ⟨H', a, c⟩ => ⟨H', a, hq _ _ c⟩
theorem run_W {e : Expr} {t : TT} (h : PW X e t) {σ : HS} {H : Hp} {Q : Bool → Hp → Prop} (q : t σ H Q) : RunW X e σ H Q := fun wh pins s I => h.run wh pins s σ H Q I q
theorem GoodW.t {ie : IE} {e : Expr} (h : GoodW T Φ X ie e) : GoodT T Φ X ie e := fun g I F H st env σ Q _ er S q pins s I0 => h g I F H st env σ Q _ er S q _ pins s I0
theorem good_andW1 {a : IE} {x : Expr} {pos : Pos} (h : GoodT T Φ X a x) : GoodW T Φ X a (.BoolOp .And [x] pos) := by
  intro g I F H st env σ Q XP er S q
  exact run_W (pw_and1 rT) (h g I F H st env σ Q _ er S q)
theorem good_orW1 {a : IE} {x : Expr} {pos : Pos} (h : GoodT T Φ X a x) : GoodW T Φ X a (.BoolOp .Or [x] pos) := by
  intro g I F H st env σ Q XP er S q
  exact run_W (pw_or1 rT) (h g I F H st env σ Q _ er S q)
theorem good_andW {a b : IE} {x y : Expr} {r : List Expr} {pos : Pos} (ha : GoodT T Φ X a x) (hb : GoodW T Φ X b (.BoolOp .And (y :: r) pos)) : GoodW T Φ X (.and a b) (.BoolOp .And (x :: y :: r) pos) := by
  intro g I F H st env σ R XP er S q
  refine run_W (pw_and rT rW) ?_
  refine ha.then_ (R := fun t x st1 => if t = true then wpE T.P Φ b env st1 (PT_ R) XP else PT_ R x st1) er S q fun g1 I1 H1 st1 t x a1 b1 S1 er1 ht q1 => ?_
  cases t with
  | true => exact (hb g1 I1 F H1 st1 env σ R _ er1 S1 q1).mono fun _ _ z => QB.from_ a1 b1 z
  | false =>
    obtain ⟨t', h1, h2⟩ := q1
    rw [ht] at h1; cases h1
    exact ⟨g1, I1, x, st1, a1, b1, S1, ht, h2⟩
theorem good_orW {a b : IE} {x y : Expr} {r : List Expr} {pos : Pos} (ha : GoodT T Φ X a x) (hb : GoodW T Φ X b (.BoolOp .Or (y :: r) pos)) : GoodW T Φ X (.or a b) (.BoolOp .Or (x :: y :: r) pos) := by
  intro g I F H st env σ R XP er S q
  refine run_W (pw_or rT rW) ?_
  refine ha.then_ (R := fun t x st1 => if t = true then PT_ R x st1 else wpE T.P Φ b env st1 (PT_ R) XP) er S q fun g1 I1 H1 st1 t x a1 b1 S1 er1 ht q1 => ?_
  cases t with
  | false => exact (hb g1 I1 F H1 st1 env σ R _ er1 S1 q1).mono fun _ _ z => QB.from_ a1 b1 z
  | true =>
    obtain ⟨t', h1, h2⟩ := q1
    rw [ht] at h1; cases h1
    exact ⟨g1, I1, x, st1, a1, b1, S1, ht, h2⟩
theorem good_notT (C : COk T L X) {a : IE} {x : Expr} {pos : Pos} (ha : GoodT T Φ X a x) : GoodT T Φ X (.not a) (.UnaryOp .Not x pos) := by
  intro g I F H st env σ R XP er S q
  refine run_T (pt_not rT) ?_
  refine ha.then_ (R := fun t x st1 => PT_ R (.bl (!t)) st1) er S q fun g1 I1 H1 st1 t x a1 b1 S1 er1 ht q1 => ?_
  obtain ⟨t', h1, h2⟩ := q1
  cases h1
  exact ⟨g1, I1, _, st1, a1, b1, S1, rfl, h2⟩
theorem good_iteT {c a b : IE} {x y zz : Expr} {pos : Pos} (hc : GoodT T Φ X c x) (ha : GoodT T Φ X a y) (hb : GoodT T Φ X b zz) : GoodT T Φ X (.ite c a b) (.IfExp x y zz pos) := by
  intro g I F H st env σ R XP er S q
  refine fun pins s I0 => ?_
  have q0 : wpE T.P Φ c env st (fun x st1 => ∃ t, truth st1 x = some t ∧ (fun t (_ : MV) st1 => if t = true then wpE T.P Φ a env st1 (PT_ R) XP else wpE T.P Φ b env st1 (PT_ R) XP) t x st1) XP := q
  have z := hc.then_ (R := fun t (_ : MV) st1 => if t = true then wpE T.P Φ a env st1 (PT_ R) XP else wpE T.P Φ b env st1 (PT_ R) XP) (Q := fun t H1 => ∀ (pins : List (Addr × Obj)) (s : Shared), Inv X pins σ H1 s →
      wpAny (model X.prog X.w) X.A (if t = true then isTrue y X.env (eval y X.env) else isTrue zz X.env (eval zz X.env)) (TP X pins σ (QB T g I F R)) X.xe s) er S q0 fun g1 I1 H1 st1 t x a1 b1 S1 er1 ht q1 => fun pins s I0 => ?_
  · show wpAny _ _ (isTrue x X.env (eval x X.env) >>= fun t => if t = true then isTrue y X.env (eval y X.env) else isTrue zz X.env (eval zz X.env)) _ _ _
    exact wpAny_bind (thn (z pins s I0) fun t s1 ⟨H1, I1, k⟩ => k pins s1 I1)
  · cases t with
    | true => exact (ha g1 I1 F H1 st1 env σ R _ er1 S1 q1).mono (fun _ _ z => QB.from_ a1 b1 z) pins s I0
    | false => exact (hb g1 I1 F H1 st1 env σ R _ er1 S1 q1).mono (fun _ _ z => QB.from_ a1 b1 z) pins s I0
/-! ### a chain of two comparisons -/
theorem marks_ok {o1 o2 : COp} {b c : Expr} (h : okCmp o2 c = true) : lastMarks [cop o1, cop o2] [b, c] = false := by
  show behindInMarks (cop o2) c = false
  exact mark_ok h
theorem good_chn (C : COk T L X) {o1 o2 : COp} {a b c : IE} {x y z : Expr} {pos : Pos} (ha : GoodE T Φ X a x) (hb : GoodE T Φ X b y) (hc : GoodE T Φ X c z) (hm : okCmp o2 z = true) : GoodE T Φ X (.chn o1 o2 a b c) (.Compare x [cop o1, cop o2] [y, z] pos) := by
  intro g I F H st env σ Q XP er S q
  refine run_E (pe_chain rSem_ok rSem_ok rE rE rE (marks_ok hm)) ?_
  refine ha.then_ er S q fun g1 I1 H1 st1 x v a1 b1 S1 er1 r1 q1 => ?_
  refine hb.then_ er1 S1 q1 fun g2 I2 H2 st2 y w a2 b2 S2 er2 r2 q2 => ?_
  refine (cmp_ok' (Qm := fun (u : MV) st3 => ∃ k, u = .bl k ∧ if k = true then wpE T.P Φ c env st3 (fun z st4 => opCmp o2 y z st4 fun u st5 => Q (.bl u) st5) XP else Q (.bl false) st3) C o1 S2 (r1.mono a2 b2) r2 ?_).mono fun u H3 hu => ?_
  · have e : (fun (t : Bool) (st3 : Sto) => if t = true then wpE T.P Φ c env st3 (fun z st4 => opCmp o2 y z st4 fun u st5 => Q (.bl u) st5) XP else Q (.bl false) st3) =
      (fun (t : Bool) (st3 : Sto) => ∃ k, (MV.bl t) = .bl k ∧ if k = true then wpE T.P Φ c env st3 (fun z st4 => opCmp o2 y z st4 fun u st5 => Q (.bl u) st5) XP else Q (.bl false) st3) := by
      funext t st3
      apply propext
      exact ⟨fun h => ⟨t, rfl, h⟩, fun ⟨k, h1, h2⟩ => by cases h1; exact h2⟩
    rw [e] at q2
    exact q2
  · obtain ⟨g3, I3, zm, st3, a3, b3, S3, r3, k, rfl, q3⟩ := hu
    refine ⟨k, r3, ?_⟩
    have a' := (a1.trans a2).trans a3
    have b' := (b1.trans b2).trans b3
    cases k with
    | false => exact QV.from_ a' b' (QV.bl S3 q3)
    | true =>
      refine hc.then_ (er2.mono a3 b3) S3 q3 fun g4 I4 H4 st4 z u a4 b4 S4 er4 r4 q4 => ?_
      exact (cmp_ok' C o2 S4 (r2.mono (a3.trans a4) (b3.trans b4)) r4 q4).mono fun _ _ w => QV.from_ (a'.trans a4) (b'.trans b4) w
theorem good_chnT (C : COk T L X) {o1 o2 : COp} {a b c : IE} {x y z : Expr} {pos : Pos} (ha : GoodE T Φ X a x) (hb : GoodE T Φ X b y) (hc : GoodE T Φ X c z) (hm : okCmp o2 z = true) : GoodT T Φ X (.chn o1 o2 a b c) (.Compare x [cop o1, cop o2] [y, z] pos) := by
  intro g I F H st env σ R XP er S q
  refine run_T (pt_chain rSem_ok rSem_ok rE rE rE (marks_ok hm)) ?_
  refine ha.then_ er S q fun g1 I1 H1 st1 x v a1 b1 S1 er1 r1 q1 => ?_
  refine hb.then_ er1 S1 q1 fun g2 I2 H2 st2 y w a2 b2 S2 er2 r2 q2 => ?_
  refine (cmp_ok' (Qm := fun (u : MV) st3 => ∃ k, u = .bl k ∧ if k = true then wpE T.P Φ c env st3 (fun z st4 => opCmp o2 y z st4 fun u st5 => PT_ R (.bl u) st5) XP else PT_ R (.bl false) st3) C o1 S2 (r1.mono a2 b2) r2 ?_).mono fun u H3 hu => ?_
  · have e : (fun (t : Bool) (st3 : Sto) => if t = true then wpE T.P Φ c env st3 (fun z st4 => opCmp o2 y z st4 fun u st5 => PT_ R (.bl u) st5) XP else PT_ R (.bl false) st3) =
      (fun (t : Bool) (st3 : Sto) => ∃ k, (MV.bl t) = .bl k ∧ if k = true then wpE T.P Φ c env st3 (fun z st4 => opCmp o2 y z st4 fun u st5 => PT_ R (.bl u) st5) XP else PT_ R (.bl false) st3) := by
      funext t st3
      apply propext
      exact ⟨fun h => ⟨t, rfl, h⟩, fun ⟨k, h1, h2⟩ => by cases h1; exact h2⟩
    rw [← e]
    exact q2
  · obtain ⟨g3, I3, zm, st3, a3, b3, S3, r3, k, rfl, q3⟩ := hu
    refine ⟨k, r3, ?_⟩
    have a' := (a1.trans a2).trans a3
    have b' := (b1.trans b2).trans b3
    cases k with
    | false =>
      obtain ⟨t, ht, q3⟩ := q3
      cases ht
      exact ⟨false, rfl, g3, I3, .bl false, st3, a', b', S3, rfl, q3⟩
    | true =>
      refine hc.then_ (er2.mono a3 b3) S3 q3 fun g4 I4 H4 st4 z u a4 b4 S4 er4 r4 q4 => ?_
      have q4 : opCmp o2 y z st4 (fun (t : Bool) (st3 : Sto) => ∃ t_1, truth st3 (.bl t) = some t_1 ∧ R t_1 (.bl t) st3) := q4
      rw [bl_post] at q4
      refine (cmp_ok' (Qm := fun (x : MV) st3 => ∃ k, x = .bl k ∧ R k (.bl k) st3) C o2 S4 (r2.mono (a3.trans a4) (b3.trans b4)) r4 q4).mono fun w H5 hw => ?_
      obtain ⟨g5, I5, zm, st5, a5, b5, S5, r5, k, rfl, q5⟩ := hw
      exact ⟨k, r5, g5, I5, .bl k, st5, (a'.trans a4).trans a5, (b'.trans b4).trans b5, S5, rfl, q5⟩
end
end Snd
-- S10
namespace Snd
open PySem L2 Mi
section
variable {T : Tab} {Φ : Phi} {L : Nat} {X : Cx}

/-! ### a callee runs -/
theorem cx_no {P : Program} {w : World} {outer : List PySem.Env} {H : Hp} {s s' : Shared} {g : Mu} {I F : Hp} {u : Value} (h : CX P w outer H s (EX T g I F fun _ _ _ => False) u s') : False := by
  obtain ⟨_, _, _, _, _, _, _, _, _, _, _, _, _, _, _, _, _, _, _, _, z⟩ := h
  exact z.2
theorem ER.takes {XP : Xp} {env : Mi.Env} {pins : List (Addr × Obj)} {s s' : Shared} {σ : HS} {H : Hp} {g : Mu} {I F : Hp} {u : Value} (er : ER T X XP g I F env σ) (I0 : Inv X pins σ H s) (hq : CX X.prog X.w X.stack H s (EX T g I F XP) u s') : X.xe u s' :=
  er.tk u s' (XE.of_call I0 (fun cls d H' ⟨g', I', c, v, st', a, b, S', r, z⟩ => ⟨g', I', env, c, v, st', a, b, S', er.rel.mono a b, r, rfl, z⟩) hq)
theorem fnc_run (C : COk T L X) {q : String} {a : Addr} (Fn : FnC T Φ L q a) {A : Around} {E' : Value → Shared → Prop} {pins : List (Addr × Obj)} {s : Shared} {σ : HS} {H : Hp} {us : List Value} {vs : List V} {xs : List MV} {Q : Post} {XP : Xp} {env : Mi.Env} {g : Mu} {I F : Hp} {st : Sto} (er : ER T X XP g I F env σ) (hE : ∀ e s', X.xe e s' → E' e s')
    (hr : Room L A) (hg : A.guards = some []) (e0 : Env0 X.prog X.w X.K X.mg X.base A X.stack s H) (I0 : Inv X pins σ H s) (r : Vals vs us) (S : T.Sim g I F H st) (rx : RepVs T.K g I xs vs) (h : Φ q xs st Q XP) :
    wpAny (model X.prog X.w) A (call (.ref a) us) (EP X pins σ (T.QV g I F Q)) E' s := by
  refine wpAny_call ?_
  have z := Fn A X.stack s H us vs xs Q XP g I F st hr hg (by rw [← C.pr, ← C.w, ← C.K, ← C.mg, ← C.ba]; exact e0) r S rx h
  rw [← C.pr, ← C.w] at z
  refine codeAny_mono z fun r s' hq => ?_
  cases r with
  | error e => exact hE _ _ (er.takes I0 hq)
  | ok fl =>
    cases fl with
    | ret u => exact I0.after hq
    | next => exact hq.elim
    | brk => exact hq.elim
    | cont => exact hq.elim
def AllF (T : Tab) (Φ : Phi) (L : Nat) : Prop := ∀ q a, T.ad q = some a → FnC T Φ L q a
theorem COk.r0 (C : COk T L X) : Room L X.A := C.room.mono (by omega)
theorem COk.rin (C : COk T L X) : Room L X.A.in1 := (Room.in1 (k := L + 1) C.room).mono (by omega)

/-! ### f(..) -/
theorem good_call0 (TO : TOk T) (C : COk T L X) (HF : AllF T Φ L) {f : String} {p pos : Pos} (hg : Gl X (Str.ofString f)) (hd : (Str.ofString f == ("__debug__" : Str)) = false) (hf : T.G.fns.contains f = true) :
    GoodE T Φ X (.call f .nil) (.Call (.Name (Str.ofString f) p) [] [] pos) := by
  intro g I F H st env σ Q XP er S q pins s I0
  obtain ⟨a, ha, hm, hk⟩ := TO.fn f hf
  refine wpAny_Call_Name_kw (ld_glob I0 hg (by rw [C.mg]; exact hm) ?_ hd)
  exact PySem.W.callWith_K0 I0.kIn (by rw [C.K]; exact hk) (fnc_run C (HF _ _ ha) (us := []) (vs := []) (xs := []) er (fun _ _ z => z) C.r0 C.gu I0.env0 I0 .nil S rfl q)
theorem good_call (TO : TOk T) (C : COk T L X) (HF : AllF T Φ L) {f : String} {es : IA} {x : Expr} {xs : List Expr} {p pos : Pos} (h : GoodA T Φ X es (x :: xs)) (hg : Gl X (Str.ofString f)) (hd : (Str.ofString f == ("__debug__" : Str)) = false) (hf : T.G.fns.contains f = true)
    (hs : noStar (x :: xs) = true) : GoodE T Φ X (.call f es) (.Call (.Name (Str.ofString f) p) (x :: xs) [] pos) := by
  intro g I F H st env σ Q XP er S q pins s I0
  obtain ⟨a, ha, hm, hk⟩ := TO.fn f hf
  refine wpAny_Call_Name_kw (ld_glob I0 hg (by rw [C.mg]; exact hm) ?_ hd)
  refine PySem.W.callWith_K (h₀ := X.base) I0.ok.mod.kin (by rw [C.K]; exact hk) (thn (h g I F H st env σ _ _ er S q pos pins s I0) fun us s1 ⟨vs, H1, I1, r, g1, m1, ys, st1, a1, b1, S1, r1, q1⟩ => ⟨I1.kIn, ?_⟩) (star_cons _ hs) (star_free _ _ (noStar_tail hs))
  exact thn (fnc_run C (HF _ _ ha) (er.mono a1 b1) (fun _ _ z => z) C.r0 C.gu I1.env0 I1 r S1 r1 q1) fun u s2 ⟨v, H2, I2, r2, q2⟩ => ⟨v, H2, I2, r2, QV.from_ a1 b1 q2⟩

/-! ### C(..) -/
theorem made_sim {g : Mu} {I F H : Hp} {st : Sto} {c : String} {C : Addr} {x dx : Addr} (S : T.Sim g I F H st) (hc : T.cl c = some C) (hx : H x = none) (hd : H dx = none) (hn : dx ≠ x) :
    T.Sim (gAdd g st.length x) (upd I dx (.own x)) F (upd (upd H dx (.own x)) x (.ins C dx [])) (st ++ [.ins c []]) := by
  have S1 := S.frozen (u := .own x) hd
  have hx1 : (upd H dx (.own x)) x = none := by rw [upd_ne (Ne.symm hn)]; exact hx
  exact S1.new (mo := .ins c []) hx1 ⟨C, dx, [], hc, upd_same, .nil⟩
theorem mk_run (TO : TOk T) (C : COk T L X) {q c : String} {a Cl : Addr} (Fn : FnC T Φ L q a) (M : Mk T.K Cl a) (hc : T.cl c = some Cl) {pins : List (Addr × Obj)} {s : Shared} {σ : HS} {H : Hp} {us : List Value} {vs : List V} {xs : List MV} {Q : Post} {XP : Xp} {env : Mi.Env} {g : Mu} {I F : Hp} {st : Sto} (er : ER T X XP g I F env σ)
    (I0 : Inv X pins σ H s) (r : Vals vs us) (S : T.Sim g I F H st) (rx : RepVs T.K g I xs vs) (h : Φ q (.ref st.length :: xs) (st ++ [.ins c []]) (fun v st2 => v = .non ∧ Q (.ref st.length) st2) XP) :
    wpAny (model X.prog X.w) X.A (call (.ref Cl) us) (EP X pins σ (T.QV g I F Q)) X.xe s := by
  have hx : H (s.heap.objs.size + 1) = none := I0.hok.fresh (Nat.le_succ _)
  have hd : H s.heap.objs.size = none := I0.hok.fresh (Nat.le_refl _)
  have ne : s.heap.objs.size ≠ s.heap.objs.size + 1 := Nat.ne_of_lt (Nat.lt_succ_self _)
  have I2 := Inv.made (C := Cl) I0
  have S2 := made_sim (c := c) S hc hx hd ne
  have hg1 : LeM g (gAdd g st.length (s.heap.objs.size + 1)) := gAdd_le S.no
  have hI1 : LeH I (upd I s.heap.objs.size (.own (s.heap.objs.size + 1))) := fresh_le S.ih hd
  have rx2 : RepVs T.K (gAdd g st.length (s.heap.objs.size + 1)) (upd I s.heap.objs.size (.own (s.heap.objs.size + 1))) (.ref st.length :: xs) (V.ref (s.heap.objs.size + 1) :: vs) :=
    ⟨_, _, rfl, ⟨s.heap.objs.size + 1, by unfold gAdd; rw [if_pos rfl], rfl⟩, rx.mono hg1 hI1⟩
  refine wpAny_call (make_map (f := a) I0.kIn (by rw [C.K]; exact M.makes) (by rw [C.K]; exact M.init) (by rw [C.K]; exact beq_iff_eq.mp M.fn) ?_)
  have z := Fn (X.A.under (.builtin "type.__call__" ⟨.ref Cl :: us, []⟩)) X.stack _ _ (Value.ref (s.heap.objs.size + 1) :: us) _ _ _ XP _ _ F _ ((Room.make (k := L + 1) C.room Cl us []).mono (by omega)) (by
      have := C.gu
      first | exact this | simpa [Around.under, Code.weight, Code.isCreation, Code.isGuard, Code.isCaller, Code.frames, Code.isFrame, guardIds] using this)
    (by rw [← C.pr, ← C.w, ← C.K, ← C.mg, ← C.ba]; exact I2.env0.make Cl us []) (.cons (show RelV (V.ref (s.heap.objs.size + 1)) (Value.ref (s.heap.objs.size + 1)) from rfl) r) S2 rx2 h
  rw [← C.pr, ← C.w] at z
  refine codeAny_mono z fun r s' hq => ?_
  cases r with
  | error e => exact (er.mono hg1 hI1).takes I2 hq
  | ok fl =>
    cases fl with
    | ret u =>
      obtain ⟨v, H', I3, rv, g3, m3, y, st3, a3, b3, S3, r3, ev, q3⟩ := I2.after hq
      subst ev
      have r3 : v = .non := r3
      subst r3
      refine ⟨rv, V.ref (s.heap.objs.size + 1), H', I3, rfl, g3, m3, .ref st.length, st3, hg1.trans a3, hI1.trans b3, S3, ⟨s.heap.objs.size + 1, a3 _ _ (by unfold gAdd; rw [if_pos rfl]), rfl⟩, q3⟩
    | next => exact hq.elim
    | brk => exact hq.elim
    | cont => exact hq.elim
theorem good_new0 (TO : TOk T) (C : COk T L X) (HF : AllF T Φ L) {c : String} {p pos : Pos} (hg : Gl X (Str.ofString c)) (hd : (Str.ofString c == ("__debug__" : Str)) = false) (hf : T.G.cls.contains c = true) :
    GoodE T Φ X (.new c .nil) (.Call (.Name (Str.ofString c) p) [] [] pos) := by
  intro g I F H st env σ Q XP er S q pins s I0
  obtain ⟨qn, hq, q⟩ := q
  obtain ⟨Cl, _, hc, hm, _⟩ := TO.cls c hf
  obtain ⟨a, ha, M⟩ := TO.mak c qn Cl hq hc
  refine wpAny_Call_Name_kw (ld_glob I0 hg (by rw [C.mg]; exact hm) ?_ hd)
  exact PySem.W.callWith_K0 I0.kIn (by rw [C.K]; exact M.kp) (mk_run TO C (HF _ _ ha) M hc (us := []) (vs := []) (xs := []) er I0 .nil S rfl q)
theorem good_new (TO : TOk T) (C : COk T L X) (HF : AllF T Φ L) {c : String} {es : IA} {x : Expr} {xs : List Expr} {p pos : Pos} (h : GoodA T Φ X es (x :: xs)) (hg : Gl X (Str.ofString c)) (hd : (Str.ofString c == ("__debug__" : Str)) = false) (hf : T.G.cls.contains c = true)
    (hs : noStar (x :: xs) = true) : GoodE T Φ X (.new c es) (.Call (.Name (Str.ofString c) p) (x :: xs) [] pos) := by
  intro g I F H st env σ Q XP er S q pins s I0
  obtain ⟨Cl, qn, hc, hm, hq⟩ := TO.cls c hf
  obtain ⟨a, ha, M⟩ := TO.mak c qn Cl hq hc
  refine wpAny_Call_Name_kw (ld_glob I0 hg (by rw [C.mg]; exact hm) ?_ hd)
  refine PySem.W.callWith_K (h₀ := X.base) I0.ok.mod.kin (by rw [C.K]; exact M.kp) (thn (h g I F H st env σ _ _ er S q pos pins s I0) fun us s1 ⟨vs, H1, I1, r, g1, m1, ys, st1, a1, b1, S1, r1, q1⟩ => ⟨I1.kIn, ?_⟩) (star_cons _ hs) (star_free _ _ (noStar_tail hs))
  obtain ⟨qn', hq', q1⟩ := q1
  rw [hq] at hq'; cases hq'
  exact thn (mk_run TO C (HF _ _ ha) M hc (er.mono a1 b1) I1 r S1 r1 q1) fun u s2 ⟨v, H2, I2, r2, q2⟩ => ⟨v, H2, I2, r2, QV.from_ a1 b1 q2⟩

/-! ### o.m(..) -/
theorem RepFs.look {K : PySem.W.Frag} {g : Mu} {I : Hp} {fs : List (String × MV)} {ws : List (Str × V)} (r : RepFs K g I fs ws) (f : String) : (∀ x, fs.lookup f = some x → ∃ v, ws.lookup (Str.ofString f) = some v ∧ RepV K g I x v) ∧ (fs.lookup f = none → ws.lookup (Str.ofString f) = none) := by
  induction r with
  | nil => exact ⟨fun _ h => by simp at h, fun _ => rfl⟩
  | @cons f' x v r r' h2 _ ih =>
    simp only [List.lookup_cons]
    by_cases e : f = f'
    · subst e
      simp only [beq_self_eq_true]
      exact ⟨fun y h => by cases h; exact ⟨v, rfl, h2⟩, fun h => by cases h⟩
    · have e1 : (f == f') = false := by simp [e]
      have e2 : (Str.ofString f == Str.ofString f') = false := by
        apply beq_eq_false_iff_ne.mpr
        exact fun z => e (ofS_inj z)
      rw [e1, e2]
      exact ih
theorem base_ok : ∀ {e : Expr} {f : Str} {env : PySem.Env}, okBase e = true → attributeBase e f env (eval e env) = eval e env := by
  intro e f env h
  cases e with
  | Call fn as ks p =>
    cases as with
    | cons x xs => cases fn <;> rfl
    | nil =>
      cases ks with
      | cons k ks => cases fn <;> rfl
      | nil =>
        cases fn with
        | Name id p' =>
          have h : (id != "super") = true := h
          unfold attributeBase
          dsimp only
          rw [h]
          simp
        | _ => rfl
  | _ => rfl
theorem methCall_of {o : Expr} {m : Str} {apos pos : Pos} {es : List Expr} {env : PySem.Env} (hb : attributeBase o m env (eval o env) = eval o env) (hl : (apos.endLine == pos.line) = true) (hall : (backTo pos (starEach es env)).all (fun x => !x.1) = true) (hn : es.length < 20) :
    eval (.Call (.Attribute o m apos) es [] pos) env = (do
      let ov ← eval o env
      standAt apos.atName
      let (f, first) ← holding [ov] (getMethod ov m (do return (← importBound o env).getD true))
      callWith pos f first (backTo pos (starEach es env)) (backToKw pos (keywordEach [] env))) := by
  have hf : methodCallForm (es.length + ([] : List Keyword).length) (backTo pos (starEach es env)) (backToKw pos (keywordEach [] env)) = true := by
    unfold methodCallForm
    rw [hall]
    show (true && true && decide (es.length + 0 + 0 < 30)) = true
    simp; omega
  rw [eval]
  rw [hb]
  unfold methodCall calleeOf methodCallPos
  rw [hf, hl]
  rfl
/-- o.m(..): the object and its class -/
theorem good_mth0 (TO : TOk T) (C : COk T L X) (HF : AllF T Φ L) {a : IE} {m : String} {o : Expr} {apos pos : Pos} (h : GoodE T Φ X a o) (hb : okBase o = true) (hl : (apos.endLine == pos.line) = true) :
    GoodE T Φ X (.mth a m .nil) (.Call (.Attribute o (Str.ofString m) apos) [] [] pos) := by
  intro g I F H st env σ Q XP er S q pins s I0
  refine PySem.W.methodCall_KW (thn (h g I F H st env σ _ _ er S q pins s I0) fun u s1 ⟨v, H1, I1, ru, g1, m1, x, st1, a1, b1, S1, r1, q1⟩ => ?_) (methCall_of (base_ok hb) hl rfl (by decide))
  obtain ⟨n, c, fs, qn, rfl, hs, hl', hq, q1⟩ := q1
  obtain ⟨p, hp, rfl⟩ := r1
  cases ru
  obtain ⟨Cl, dx, ws, hc, hH, rf⟩ := S1.at_ hp hs
  obtain ⟨Cl', fa, hc', ha, M, hfn⟩ := TO.mt c m qn hq
  rw [hc] at hc'; cases hc'
  refine getmeth_ok I1 hH (by rw [C.K]; exact TO.clk _ _ hc) (by rw [C.K]; exact M) ((rf.look m).2 hl') ?_
  have rr : RepVs T.K g1 m1 [.ref n] [V.ref p] := ⟨_, _, rfl, ⟨p, hp, rfl⟩, rfl⟩
  exact PySem.W.callWith_K0 (first := [.ref p]) I1.kIn (by rw [C.K]; exact M.kp) (thn (fnc_run C (HF _ _ ha) (us := [.ref p]) (vs := [.ref p]) (er.mono a1 b1) (fun _ _ z => z) C.r0 C.gu I1.env0 I1 (.cons rfl .nil) S1 rr q1) fun u s2 ⟨v, H2, I2, r2, q2⟩ => ⟨v, H2, I2, r2, QV.from_ a1 b1 q2⟩)
theorem good_mth (TO : TOk T) (C : COk T L X) (HF : AllF T Φ L) {a : IE} {m : String} {o : Expr} {es : IA} {x : Expr} {xs : List Expr} {apos pos : Pos} (h : GoodE T Φ X a o) (hA : GoodA T Φ X es (x :: xs)) (hb : okBase o = true) (hl : (apos.endLine == pos.line) = true)
    (hs : noStar (x :: xs) = true) (hn : (x :: xs).length < 20) : GoodE T Φ X (.mth a m es) (.Call (.Attribute o (Str.ofString m) apos) (x :: xs) [] pos) := by
  intro g I F H st env σ Q XP er S q pins s I0
  refine PySem.W.methodCall_KW (thn (h g I F H st env σ _ _ er S q pins s I0) fun u s1 ⟨v, H1, I1, ru, g1, m1, y, st1, a1, b1, S1, r1, q1⟩ => ?_) (methCall_of (base_ok hb) hl (star_all _ _ hs) hn)
  obtain ⟨n, c, fs, qn, rfl, hs', hl', hq, q1⟩ := q1
  obtain ⟨p, hp, rfl⟩ := r1
  cases ru
  obtain ⟨Cl, dx, ws, hc, hH, rf⟩ := S1.at_ hp hs'
  obtain ⟨Cl', fa, hc', ha, M, hfn⟩ := TO.mt c m qn hq
  rw [hc] at hc'; cases hc'
  refine getmeth_ok I1 hH (by rw [C.K]; exact TO.clk _ _ hc) (by rw [C.K]; exact M) ((rf.look m).2 hl') ?_
  refine PySem.W.callWith_K (first := [.ref p]) (h₀ := X.base) I1.ok.mod.kin (by rw [C.K]; exact M.kp) (thn (hA g1 m1 F H1 st1 env σ _ _ (er.mono a1 b1) S1 q1 pos pins s1 I1) fun us s2 ⟨vs, H2, I2, r2, g2, m2, ys, st2, a2, b2, S2, r3, q2⟩ => ⟨I2.kIn, ?_⟩) (star_cons _ hs) (star_free _ _ (noStar_tail hs))
  have rr : RepVs T.K g2 m2 (.ref n :: ys) (V.ref p :: vs) := ⟨_, _, rfl, ⟨p, a2 _ _ hp, rfl⟩, r3⟩
  exact thn (fnc_run C (HF _ _ ha) (us := .ref p :: us) (vs := .ref p :: vs) (er.mono (a1.trans a2) (b1.trans b2)) (fun _ _ z => z) C.r0 C.gu I2.env0 I2 (.cons rfl r2) S2 rr q2) fun u s2 ⟨v, H2, I2, r2, q2⟩ => ⟨v, H2, I2, r2, QV.from_ (a1.trans a2) (b1.trans b2) q2⟩
/-! ### e.f -/
theorem good_fld (TO : TOk T) (C : COk T L X) (HF : AllF T Φ L) {a : IE} {f : String} {e : Expr} {pos : Pos} (h : GoodE T Φ X a e) (hb : okBase e = true) : GoodE T Φ X (.fld a f) (.Attribute e (Str.ofString f) pos) := by
  intro g I F H st env σ Q XP er S q pins s I0
  refine attr_of (base_ok hb) (thn (h g I F H st env σ _ _ er S q pins s I0) fun u s1 ⟨v, H1, I1, ru, g1, m1, x, st1, a1, b1, S1, r1, q1⟩ => ?_)
  rcases q1 with ⟨n, c, fs, rfl, hs, q1⟩ | ⟨rfl, n, c, v, rfl, hs, q1⟩
  rotate_left
  · obtain ⟨p, hp, rfl⟩ := r1
    cases ru
    obtain ⟨D, dd, w, hx, hH, hd, rv⟩ := S1.at_ hp hs
    obtain ⟨_, Xf, hno⟩ := TO.xk c D hx
    rw [← C.K] at Xf hno
    have hp2 : ObjOk X.prog X.w H1 s1.heap p (.ext fun h => ∃ (oe : Obj) (vs : Array Value), h.get? p = some oe ∧ Zc (.ref D) (some dd) oe ∧ oe.data = .fields vs) := I1.hok p _ hH
    obtain ⟨⟨oe, vs, ho, hz, hdt⟩, _, _⟩ := hp2
    obtain ⟨mA, hns, hr⟩ := (show ObjOk X.prog X.w H1 s1.heap dd (.xd [("value", w)]) from I1.hok dd _ (S1.ih _ _ hd))
    obtain ⟨od, hod, hl⟩ := lookIn_ns hns
    obtain ⟨u, hu, ru⟩ := RelO.some_of (v := w) (o := mA "value") (hr "value")
    have J : PySem.W.InstAt s1.heap p oe D (some od) := ⟨ho, hz.1, by unfold PySem.W.notCls; rw [hdt] <;> rfl, by rw [hz.2]; exact hod⟩
    exact HandSPX.exc_get I1.kIn J Xf.ga Xf.gg Xf.exC (PySem.W.findObj_own Xf.hdC hno rfl (by rw [hl, hu])) (handed_of ru) ⟨w, H1, I1.tok _, ru, QV.from_ a1 b1 (QV.mk S1 rv q1)⟩
  obtain ⟨p, hp, rfl⟩ := r1
  cases ru
  obtain ⟨Cl, dx, ws, hc, hH, rf⟩ := S1.at_ hp hs
  rcases q1 with ⟨hp0, v, hv, q1⟩ | ⟨qn, hq, q1⟩
  · obtain ⟨w, hw, rw_⟩ := (rf.look f).1 v hv
    exact getattr_ok I1 hH (by rw [C.K]; exact TO.clk _ _ hc) (by rw [C.K]; exact TO.fl c Cl f hc hp0) hw fun u' s2 I2 ru => ⟨w, H1, I2, ru, QV.from_ a1 b1 (QV.mk S1 rw_ q1)⟩
  · obtain ⟨Cl', pr, fa, hc', ha, hpr⟩ := TO.pr c f qn hq
    rw [hc] at hc'; cases hc'
    have ck := TO.clk _ _ hc
    rw [← C.K] at ck hpr
    obtain ⟨mA, O, _, _, _, _⟩ := ins_get I1.hok hH
    obtain ⟨od, J, _⟩ := O.look
    obtain ⟨rest, hrec⟩ := hpr.rec_
    have I2 := I1.tok (s1.toks + 1)
    have hc2 : (PySem.W.clsIn X.K Cl).isSome = true := by
      obtain ⟨cd, hc, _⟩ := PySem.W.any_some ck.hd
      rw [hc]
      rfl
    refine PySem.W.get_bind I1.kIn J (PySem.W.plainGet_of (ck.get (Str.ofString f))).1 (PySem.W.findObj_data hc2 hpr.at_ hpr.get hpr.tak) (PySem.W.plainGet_of (ck.get (Str.ofString f))).2 (wpAny_call (PySem.W.prop_get (s := { s1 with toks := s1.toks + 1 }) I1.kIn hrec ?_))
    have z := HF _ _ ha X.A.in1 X.stack { s1 with toks := s1.toks + 1 } H1 [.ref p] [.ref p] [.ref n] Q (fun _ _ _ => False) g1 m1 F st1 C.rin C.gu (by rw [← C.pr, ← C.w, ← C.K, ← C.mg, ← C.ba]; exact I2.env0.in1) (.cons rfl .nil) S1 ⟨_, _, rfl, ⟨p, hp, rfl⟩, rfl⟩ q1
    rw [← C.pr, ← C.w] at z
    refine codeAny_mono z fun r s' hq => ?_
    cases r with
    | error e' => exact (cx_no hq).elim
    | ok fl =>
      cases fl with
      | ret u =>
        obtain ⟨v, H', I3, rv, q3⟩ := I2.after hq
        show wpAny _ _ (handedOut u) _ _ _
        rw [PySem.W.handedOut_of (handed_of rv)]
        exact wpAny_pure ⟨v, H', I3, rv, QV.from_ a1 b1 q3⟩
      | next => exact hq.elim
      | brk => exact hq.elim
      | cont => exact hq.elim
end
end Snd
-- S11
namespace Snd
open PySem L2 Mi
section
variable {T : Tab} {Φ : Phi} {L : Nat} {X : Cx}

/-! ### a[b] -/
theorem ix_plain {b : Expr} (h : okIx b = true) : PlainIx b := by
  intro o i
  cases b <;> first | rfl | exact absurd h Bool.false_ne_true
theorem ix_own {b : Expr} (h : okIx b = true) (o i : Value) : subscripted b true o i = runValue (.builtin "lifetime.subscript" ⟨[o, i], []⟩) := by
  cases b <;> first | with_unfolding_all rfl | exact absurd h Bool.false_ne_true
theorem frm {pins : List (Addr × Obj)} {s : Shared} {σ : HS} {H : Hp} (I : Inv X pins σ H s) : ∃ m, PyProof.Rows.Fr X.base X.env.locals s.heap m := by
  obtain ⟨m, hm, _⟩ := I.loc
  exact ⟨m, hm, I.bk, Nat.le_trans I.ok.bsz I.ok.above⟩
theorem sub_ok' (C : COk T L X) {x i : MV} {v w : V} {Q : Post} {g : Mu} {I F H : Hp} {st : Sto} (S : T.Sim g I F H st) (rx : RepV T.K g I x v) (ry : RepV T.K g I i w) (h : opSub x i st Q) : iSem X v w H (T.QV g I F Q) := by
  have K := C.K
  have := sub_ok (X := X) C.u (by rw [K]; exact S) (by rw [K]; exact rx) (by rw [K]; exact ry) h
  rw [K] at this
  exact this
theorem good_sub (TO : TOk T) (C : COk T L X) (HF : AllF T Φ L) {a i : IE} {x y : Expr} {pos : Pos} (ha : GoodE T Φ X a x) (hi : GoodE T Φ X i y) (hx : okIx y = true) : GoodE T Φ X (.sub a i) (.Subscript x y pos) := by
  intro g I F H st env σ Q XP er S q pins s I0
  refine PyProof.Rows.Subscript_ (thn (ha g I F H st env σ _ _ er S q pins s I0) fun u s1 ⟨v, H1, I1, ru, g1, m1, xm, st1, a1, b1, S1, r1, q1⟩ => thn (hi g1 m1 F H1 st1 env σ _ _ (er.mono a1 b1) S1 q1 pins s1 I1) fun u2 s2 ⟨w, H2, I2, ru2, g2, m2, ym, st2, a2, b2, S2, r2, q2⟩ => ?_)
  rcases q2 with q2 | ⟨n, c, fs, qn, rfl, hs, hq, q2⟩
  · exact thn (sub_ok' C S2 (r1.mono a2 b2) r2 q2 x y pins s2 σ u u2 I2 ru ru2 (ix_plain hx _ _)) fun _ _ ⟨z, H3, I3, r3, q3⟩ => ⟨z, H3, I3, r3, QV.from_ (a1.trans a2) (b1.trans b2) q3⟩
  · obtain ⟨p, hp, rfl⟩ := r1
    cases ru
    obtain ⟨Cl, dx, ws, hc, hH, rf⟩ := S2.at_ (a2 _ _ hp) hs
    obtain ⟨Cl', fa, hc', hfa, M, hfn⟩ := TO.mt c _ qn hq
    rw [hc] at hc'; cases hc'
    obtain ⟨mA, O, _⟩ := ins_get I2.hok hH
    obtain ⟨od, J, _⟩ := O.look
    obtain ⟨mm, Fm⟩ := frm I2
    rw [← C.K] at M hfn
    refine PySem.W.sub_K Fm I2.ok.mod.kin J M.at_ hfn M.fn ?_ (ix_own hx _ _)
    have rr : RepVs T.K g2 m2 [.ref n, ym] [V.ref p, w] := ⟨_, _, rfl, ⟨p, a2 _ _ hp, rfl⟩, _, _, rfl, r2, rfl⟩
    exact thn (fnc_run C (HF _ _ hfa) (us := [.ref p, u2]) (vs := [.ref p, w]) (er.mono (a1.trans a2) (b1.trans b2)) (fun _ _ z => z) C.rin C.gu I2.env0.in1 I2 (.cons rfl (.cons ru2 .nil)) S2 rr q2) fun _ _ ⟨z, H3, I3, r3, q3⟩ => ⟨z, H3, I3, r3, QV.from_ (a1.trans a2) (b1.trans b2) q3⟩

/-! ### slices -/
def RunO (X : Cx) (e : Option Expr) : TO := fun σ H Q => ∀ (pins : List (Addr × Obj)) (s : Shared), Inv X pins σ H s → wpAny (model X.prog X.w) X.A (evalPart e X.env) (fun u s' => ∃ o H', Inv X pins σ H' s' ∧ IsPart u o ∧ Q o H') X.xe s
theorem rO {e : Option Expr} : PO X e (RunO X e) := ⟨fun pins s _ _ _ I h => h pins s I⟩
theorem run_O {e : Option Expr} {t : TO} (h : PO X e t) {σ : HS} {H : Hp} {Q : Option Int → Hp → Prop} (q : t σ H Q) : RunO X e σ H Q := fun pins s I => h.run pins s σ H Q I q
theorem RunO.mono {e : Option Expr} {σ : HS} {H : Hp} {Q Q' : Option Int → Hp → Prop} (h : RunO X e σ H Q) (hq : ∀ v H', Q v H' → Q' v H') : RunO X e σ H Q' := fun pins s I => thn (h pins s I) fun _ _ ⟨v, H', a, b, c⟩ => ⟨v, H', a, b, hq _ _ c⟩
def QO (T : Tab) (g : Mu) (I F : Hp) (Q : Option Int → Sto → Prop) : Option Int → Hp → Prop := fun v H' => ∃ g' I' st', LeM g g' ∧ LeH I I' ∧ T.Sim g' I' F H' st' ∧ Q v st'
def GoodO (T : Tab) (Φ : Phi) (X : Cx) (ie : IO) (e : Option Expr) : Prop := ∀ (g : Mu) (I F H : Hp) (st : Sto) (env : Mi.Env) (σ : HS) (Q : Option Int → Sto → Prop) (XP : Xp), ER T X XP g I F env σ → T.Sim g I F H st → wpO T.P Φ ie env st Q XP → RunO X e σ H (QO T g I F Q)
theorem good_onon : GoodO T Φ X .non none := fun g I F H st env σ Q _ er S q => run_O po_none ⟨g, I, st, LeM.refl _, LeH.refl _, S, q⟩
theorem good_osom {ie : IE} {e : Expr} (h : GoodE T Φ X ie e) : GoodO T Φ X (.som ie) (some e) := by
  intro g I F H st env σ Q XP er S q
  refine run_O (po_some rE) ?_
  refine h.then_ er S q fun g1 I1 H1 st1 y v a1 b1 S1 er1 r1 q1 => ?_
  obtain ⟨i, rfl, q1⟩ := q1
  exact ⟨i, r1, g1, I1, st1, a1, b1, S1, q1⟩
theorem good_sli (C : COk T L X) {a : IE} {lo hi : IO} {x : Expr} {l h : Option Expr} {p pos : Pos} (ha : GoodE T Φ X a x) (hl : GoodO T Φ X lo l) (hh : GoodO T Φ X hi h) : GoodE T Φ X (.sli a lo hi) (.Subscript x (.Slice l h none p) pos) := by
  intro g I F H st env σ Q XP er S q
  refine run_E (pe_slice slSem_ok rE rO rO) ?_
  refine ha.then_ er S q fun g1 I1 H1 st1 xm v a1 b1 S1 er1 r1 q1 => ?_
  refine (hl g1 I1 F H1 st1 env σ _ _ er1 S1 q1).mono fun li H2 ⟨g2, I2, st2, a2, b2, S2, q2⟩ => ?_
  refine (hh g2 I2 F H2 st2 env σ _ _ (er1.mono a2 b2) S2 q2).mono fun ui H3 ⟨g3, I3, st3, a3, b3, S3, q3⟩ => ?_
  have K := C.K
  have z := sli_ok (X := X) (by rw [K]; exact S3) (by rw [K]; exact r1.mono (a2.trans a3) (b2.trans b3)) q3
  rw [K] at z
  exact fun pins s σ v vl vu sl I r hs p1 p2 => by
    obtain ⟨T0, id, h1, h2, h3⟩ := z pins s σ v vl vu sl I r hs p1 p2
    exact ⟨T0, id, h1, h2, thn h3 fun _ _ ⟨z, H3, I3, r3, q3⟩ => ⟨z, H3, I3, r3, QV.from_ ((a1.trans a2).trans a3) ((b1.trans b2).trans b3) q3⟩⟩
theorem good_rev (C : COk T L X) {a : IE} {x : Expr} {k : Nat} {p1 p2 p3 pos : Pos} (ha : GoodE T Φ X a x) :
    GoodE T Φ X (.rev a) (.Subscript x (.Slice none none (some (.UnaryOp .USub (.Constant (.int 1) k p1) p2)) p3) pos) := by
  intro g I F H st env σ Q XP er S q
  refine run_E (pe_revB rE) ?_
  refine ha.then_ er S q fun g1 I1 H1 st1 xm v a1 b1 S1 er1 r1 q1 => ?_
  rcases q1 with ⟨n, xs, rfl, hs, q1⟩ | ⟨xs, rfl, q1⟩ | ⟨t, rfl, hl, q1⟩
  · obtain ⟨p, hp, rfl⟩ := r1
    obtain ⟨vs, e1, r2⟩ := S1.at_ hp hs
    exact .inl ⟨p, vs, rfl, SqL.of e1, fun p' hn => QV.from_ a1 b1 (new_list S1 r2.rev q1 hn)⟩
  · obtain ⟨p, vs, rfl, h1, r2⟩ := r1
    exact .inr (.inl ⟨p, vs, rfl, by rw [C.K]; exact S1.ih.tup h1, fun p' hn => QV.from_ a1 b1 (new_tup S1 r2.rev q1 hn)⟩)
  · cases r1
    refine .inr (.inr ⟨_, rfl, by rw [len_arr, ← big_eq]; exact hl, QV.from_ a1 b1 ?_⟩)
    exact QV.str S1 q1

/-! ### methods of builtin values -/
def mSem (X : Cx) (id : String) : V → List V → Hp → VK → Prop := fun x xs H Q => ∀ (pins : List (Addr × Obj)) (s : Shared) (σ : HS) (v : Value) (us : List Value), Inv X pins σ H s → RelV x v → Vals xs us →
  wpAny (model X.prog X.w) X.A (call (.builtin id) (v :: us)) (EP X pins σ Q) X.xe s
theorem mSem_ok {id : String} : MtR X id (mSem X id) := fun pins s σ H x xs v us Q I r1 r2 h => h pins s σ v us I r1 r2
theorem mSem_of {id : String} {r : V → List V → Hp → VK → Prop} (ho : MtR X id r) {x : V} {xs : List V} {H : Hp} {Q : VK} (h : r x xs H Q) : mSem X id x xs H Q := fun pins s σ v us I r1 r2 => ho pins s σ H x xs v us Q I r1 r2 h
def mTy : BMt → String
  | .append => "list" | .extend => "list" | .pop => "list" | .index => "list" | .split => "str" | .join => "str" | .get => "dict" | .upper => "str"
def mId : BMt → String
  | .append => "list.append" | .extend => "list.extend" | .pop => "list.pop" | .index => "list.index" | .split => "str.split" | .join => "str.join" | .get => "dict.get" | .upper => "str.upper"
theorem m_plain (m : BMt) : PlainAttrs (mTy m) := by
  cases m <;> first | exact PySem.F.plainAttrs_list | exact PySem.F.plainAttrs_str | exact PySem.F.plainAttrs_dict
theorem m_slot (m : BMt) : Slot (mTy m) (Str.ofString (mname m)) (mId m) := by
  cases m
  · exact PySem.F.slot_list_append
  · exact PySem.F.slot_list_extend
  · exact PySem.F.slot_list_pop
  · exact PySem.F.slot_list_index
  · exact PySem.F.slot_str_split
  · exact PySem.F.slot_str_join
  · exact PySem.F.slot_dict_get
  · exact PySem.F.slot_str_upper
theorem m_type (m : BMt) : typeOf (.builtin (mId m)) = pure (.type "method_descriptor") := by
  cases m
  · exact PySem.F.type_list_append
  · exact PySem.F.type_list_extend
  · exact PySem.F.type_list_pop
  · exact PySem.F.type_list_index
  · exact PySem.F.type_str_split
  · exact PySem.F.type_str_join
  · exact PySem.F.type_dict_get
  · exact PySem.F.type_str_upper
theorem m_tyV (C : COk T L X) {m : BMt} {g : Mu} {I F H : Hp} {st : Sto} {x : MV} {v : V} (S : T.Sim g I F H st) (r : RepV T.K g I x v) (h : btOk m st x = true) : tyV X.K (mTy m) v H := by
  cases x with
  | str s =>
    cases r
    cases m <;> first | rfl | exact absurd h Bool.false_ne_true
  | ref a =>
    obtain ⟨p, hp, rfl⟩ := r
    simp only [btOk] at h
    split at h
    · rename_i xs hs
      obtain ⟨vs, e1, _⟩ := S.at_ hp hs
      cases m <;> first | exact absurd h Bool.false_ne_true | exact .inl ⟨rfl, vs, SqL.of e1⟩
    · rename_i kvs hs
      obtain ⟨ws, e1, _⟩ := S.at_ hp hs
      cases m <;> first | exact absurd h Bool.false_ne_true | exact .inr (.inr (.inl ⟨rfl, .inl ⟨ws, e1⟩⟩))
    · exact absurd h Bool.false_ne_true
  | _ => exact absurd h Bool.false_ne_true
theorem ix63 {n : Nat} {i : Int} {k : Nat} (hn : n ≤ big) (h : ixOf n i = some k) : -(2 ^ 63) ≤ i ∧ i < 2 ^ 63 := by
  unfold ixOf at h
  have hb : big = 16777216 := rfl
  split at h
  · split at h
    · omega
    · cases h
  · split at h
    · omega
    · cases h
theorem find_spec {d : PD} : ∀ {ds : List PD} {j : Nat}, ds.findIdx? (fun z => PD.eqv z d) = some j → ∃ z, ds[j]? = some z ∧ PD.eqv z d = true ∧ ∀ (m : Nat) (z' : PD), m < j → ds[m]? = some z' → PD.eqv z' d = false := by
  intro ds j h
  rw [List.findIdx?_eq_some_iff_getElem] at h
  obtain ⟨hj, h1, h2⟩ := h
  refine ⟨ds[j], List.getElem?_eq_getElem hj, h1, fun m z' hm hz => ?_⟩
  have h3 := h2 m hm
  have hm' : m < ds.length := by omega
  rw [List.getElem?_eq_getElem hm'] at hz
  cases hz
  simpa using h3
theorem up_toS {t : Tx} (h : t.all (· < 128) = true) : Txt.upper (⟨t.toArray⟩ : Str) = toS (t.map fun c => if 97 ≤ c ∧ c ≤ 122 then c - 32 else c) := by
  rw [PyProof.Rows.upper_ascii (x := (⟨t.toArray⟩ : Str)) (fun c hc => of_decide_eq_true (List.all_eq_true.mp h c (by simpa using hc)))]
  exact TL.ext_tl (by show (t.toArray.map PyProof.Rows.up1).toList = _; rw [Array.toList_map]; rfl)
theorem bmt_ok (C : COk T L X) (m : BMt) {g : Mu} {I F H : Hp} {st : Sto} {x : MV} {v : V} {xs : List MV} {vs : List V} {Q : Post} (S : T.Sim g I F H st) (rx : RepV T.K g I x v) (rs : RepVs T.K g I xs vs) (h : opBmt m x xs st Q) :
    mSem X (mId m) v vs H (T.QV g I F Q) := by
  have hu := C.u
  have K := C.K
  cases m with
  | append =>
    obtain ⟨a, ys, y, rfl, hs, rfl, hl, q⟩ := h
    obtain ⟨p, hp, rfl⟩ := rx
    obtain ⟨w, rfl, rw_⟩ := rs.one
    obtain ⟨us, e1, r1⟩ := S.at_ hp hs
    have S2 : T.Sim g I F (upd H p (.lst (us ++ [w]))) (st.set a (.lst (ys ++ [y]))) := S.write hp e1 rfl ⟨us ++ [w], upd_same, r1.app (RepVs.of_one rw_)⟩
    exact mSem_of mt_append ⟨p, us, w, rfl, rfl, e1, by rw [r1.len, ← big_eq]; exact hl, QV.non S2 q⟩
  | extend =>
    obtain ⟨a, ys, b, zs, rfl, hs, rfl, hs2, hl, q⟩ := h
    obtain ⟨p, hp, rfl⟩ := rx
    obtain ⟨w, rfl, rw_⟩ := rs.one
    obtain ⟨p2, hp2, rfl⟩ := rw_
    obtain ⟨us, e1, r1⟩ := S.at_ hp hs
    obtain ⟨ws, e2, r2⟩ := S.at_ hp2 hs2
    have S2 : T.Sim g I F (upd H p (.lst (us ++ ws))) (st.set a (.lst (ys ++ zs))) := S.write hp e1 rfl ⟨us ++ ws, upd_same, r1.app r2⟩
    exact mSem_of mt_extend ⟨p, p2, us, ws, rfl, rfl, e1, e2, by rw [r1.len, r2.len, ← big_eq]; exact hl, QV.non S2 q⟩
  | pop =>
    rcases h with ⟨a, ys, i, k, y, rfl, hs, rfl, hl, hk, hy, q⟩ | ⟨a, ys, y, rfl, hs, rfl, hy, q⟩
    · obtain ⟨p, hp, rfl⟩ := rx
      obtain ⟨w, rfl, rw_⟩ := rs.one
      cases rw_
      obtain ⟨us, e1, r1⟩ := S.at_ hp hs
      obtain ⟨z, ez, rz⟩ := r1.get hy
      have b63 := ix63 (by omega) hk
      have S2 : T.Sim g I F (upd H p (.lst (us.eraseIdx k))) (st.set a (.lst (ys.eraseIdx k))) := S.write hp e1 rfl ⟨us.eraseIdx k, upd_same, r1.erase k⟩
      refine mSem_of mt_popAt ⟨p, us, i, k, z, rfl, rfl, e1, b63.1, b63.2, ?_, ez, QV.mk S2 rz q⟩
      rw [r1.len]
      exact (ixN_seq (show ixN ys.length i = some k from hk)).1
    · obtain ⟨p, hp, rfl⟩ := rx
      have rs : vs = [] := rs
      subst rs
      obtain ⟨us, e1, r1⟩ := S.at_ hp hs
      obtain ⟨z, ez, rz⟩ := r1.get hy
      have S2 : T.Sim g I F (upd H p (.lst us.dropLast)) (st.set a (.lst ys.dropLast)) := S.write hp e1 rfl ⟨us.dropLast, upd_same, by rw [List.dropLast_eq_take, List.dropLast_eq_take, r1.len]; exact r1.take _⟩
      exact mSem_of mt_pop ⟨p, us, z, rfl, rfl, e1, by rw [r1.len]; exact ez, QV.mk S2 rz q⟩
  | index =>
    obtain ⟨a, ys, y, d, ds, j, rfl, hs, rfl, h1, h2, f1, f2, hj, q⟩ := h
    obtain ⟨p, hp, rfl⟩ := rx
    obtain ⟨w, rfl, rw_⟩ := rs.one
    obtain ⟨us, e1, r1⟩ := S.at_ hp hs
    have n1 := fine_nodic d f1
    have n2 := fine_nodics ds f2
    have D1 := dp_of S 30 y d w n1 h1 rw_
    have D2 : Dp T.K H (.ref p) (.list (pyDs ds)) := .lst (SqL.of e1) (dps_all S 30 n2 h2 r1)
    have s1 := shaped_of (n := 30) (st := st) (by decide) f1 h1
    have s2 := shaped_list (n := 30) (st := st) (by decide) f2 h2
    obtain ⟨z, z1, z2, z3⟩ := find_spec hj
    have at_ : ∀ (m : Nat) (e : PyData), (pyDs ds)[m]? = some e → ∃ z, ds[m]? = some z ∧ e = pyD z := fun m e he => by
      rw [pyDs_map, List.getElem?_map] at he
      cases hz : ds[m]? with
      | none => rw [hz] at he; cases he
      | some z => rw [hz] at he; cases he; exact ⟨z, rfl, rfl⟩
    have nn : ∀ (m : Nat) (z : PD), ds[m]? = some z → z.nodic = true := fun m z hz => nodic_mem n2 z (List.mem_of_getElem? hz)
    rw [← K] at D1 D2
    refine mSem_of (mt_indexD hu) ⟨p, w, pyD d, pyDs ds, j, pyD z, rfl, rfl, D2, D1, s2, s1, by rw [pyDs_map, List.getElem?_map, z1]; rfl, by rw [eqv_py _ _ (nn j z z1) n1]; exact z2, fun m e hm he => ?_, QV.int S q⟩
    obtain ⟨z', hz', rfl⟩ := at_ m e he
    rw [eqv_py _ _ (nn m z' hz') n1]
    exact z3 m z' hm hz'
  | split =>
    obtain ⟨t, c, rfl, rfl, hl, q⟩ := h
    cases rx
    obtain ⟨w, rfl, rw_⟩ := rs.one
    cases rw_
    refine mSem_of mt_split ⟨_, _, rfl, rfl, by simp [Str.length], by rw [len_arr, ← big_eq]; exact hl, fun p hn => ?_⟩
    rw [show Txt.split (⟨t.toArray⟩ : Str) ⟨[c].toArray⟩ = (splitOn c t).map toS from split_toS c t]
    refine new_list S ?_ q hn
    rw [List.map_map]
    exact RepVs.map (f := MV.str) (f' := V.str ∘ toS) (fun t => rfl) _
  | join =>
    obtain ⟨t, y, wsx, rfl, rfl, hs, hl, q⟩ := h
    cases rx
    obtain ⟨w, rfl, rw_⟩ := rs.one
    obtain ⟨p, us, rfl, h1, r1⟩ := seqL_of (X := X) (by rw [K]; exact S) (by rw [K]; exact rw_) hs
    rw [K] at h1 r1
    have e1 := strs_of r1
    subst e1
    refine mSem_of mt_join ⟨_, p, wsx.map toS, rfl, rfl, by rw [K]; exact h1, ?_, ?_⟩
    · rw [List.length_map, len_arr, List.map_map]
      rw [show (Str.length ∘ toS) = (fun w : Tx => w.length) from funext fun w => len_arr w]
      exact hl
    · rw [TL.join_eq, show Str.join (⟨t.toArray⟩ : Str) (wsx.map toS) = toS (joinBy t wsx) from join_toS t wsx]
      exact QV.str S q
  | get =>
    obtain ⟨a, kvs, k, y, rfl, hs, rfl, hk, q⟩ := h
    obtain ⟨p, hp, rfl⟩ := rx
    obtain ⟨w1, w2, rfl, r1, r2⟩ := rs.two
    obtain ⟨k', ek, rfl⟩ := keyV_of hk r1
    obtain ⟨ws, e1, rk⟩ := S.at_ hp hs
    intro pins s σ v us I0 rv rus
    cases rv
    cases rus with
    | cons ru1 t =>
      cases t with
      | cons ru2 t =>
        cases t
        refine d_get2 (by omega) I0 (.inl ⟨ws, k', .inl e1, rfl, rfl⟩) ru1 ru2 fun w' s' I' rw' => ⟨_, H, I', rw', ?_⟩
        have hlk := rk.look ek
        cases hv : kLook k kvs with
        | none =>
          rw [hv] at q
          have := hlk.2 hv
          rw [this]
          exact QV.mk S r2 q
        | some z =>
          rw [hv] at q
          obtain ⟨z', e2, r3⟩ := hlk.1 z hv
          rw [e2]
          exact QV.mk S r3 q
  | upper =>
    obtain ⟨t, rfl, rfl, hl, ha, q⟩ := h
    cases rx
    have rs : vs = [] := rs
    subst rs
    refine mSem_of mt_upper ⟨_, rfl, rfl, by rw [len_arr]; omega, ?_⟩
    rw [show Txt.upper (⟨t.toArray⟩ : Str) = toS (t.map fun c => if 97 ≤ c ∧ c ≤ 122 then c - 32 else c) from up_toS ha]
    exact QV.str S q
theorem few_ok {e : Expr} {es : List Expr} (env : PySem.Env) (cpos : Pos) (hs : noStar (e :: es) = true) (hn : (e :: es).length < 20) : ((backTo cpos (starEach (e :: es) env)).all (fun x => !x.1) && (backToKw cpos (keywordEach [] env)).all (fun x => x.1.isSome)
      && decide ((e :: es).length + ([] : List Keyword).length + (if ([] : List Keyword).isEmpty then 0 else 1) < 30)) = true := by
  rw [star_all env cpos hs]
  show (true && true && decide ((e :: es).length + 0 + 0 < 30)) = true
  simp only [Bool.true_and, decide_eq_true_eq]
  omega
theorem good_bmt (C : COk T L X) {a : IE} {m : BMt} {o : Expr} {es : IA} {x : Expr} {xs : List Expr} {apos pos : Pos} (h : GoodE T Φ X a o) (hA : GoodA T Φ X es (x :: xs)) (hb : okBase o = true) (hl : (apos.endLine == pos.line) = true)
    (hs : noStar (x :: xs) = true) (hn : (x :: xs).length < 20) : GoodE T Φ X (.bmt a m es) (.Call (.Attribute o (Str.ofString (mname m)) apos) (x :: xs) [] pos) := by
  intro g I F H st env σ Q XP er S q
  refine run_E (pe_bm (m_plain m) (m_slot m) (m_type m) mSem_ok rE rA (base_ok hb) (few_ok _ _ hs hn) hl (star_cons _ hs) (star_free _ _ (noStar_tail hs))) ?_
  refine h.then_ er S q fun g1 I1 H1 st1 xm v a1 b1 S1 er1 r1 q1 => ?_
  refine ⟨m_tyV C S1 r1 q1.1, ?_⟩
  refine hA.then_ er1 S1 q1.2 fun g2 I2 H2 st2 ys vs a2 b2 S2 er2 r2 q2 => ?_
  exact fun pins s σ v us I r1' r2' => thn (bmt_ok C m S2 (r1.mono a2 b2) r2 q2 pins s σ v us I r1' r2') fun _ _ ⟨z, H3, I3, r3, q3⟩ => ⟨z, H3, I3, r3, QV.from_ (a1.trans a2) (b1.trans b2) q3⟩
theorem good_bmt0 (C : COk T L X) {a : IE} {m : BMt} {o : Expr} {apos pos : Pos} (h : GoodE T Φ X a o) (hb : okBase o = true) (hl : (apos.endLine == pos.line) = true) :
    GoodE T Φ X (.bmt a m .nil) (.Call (.Attribute o (Str.ofString (mname m)) apos) [] [] pos) := by
  intro g I F H st env σ Q XP er S q
  refine run_E (pe_bm0 (m_plain m) (m_slot m) (m_type m) mSem_ok rE (base_ok hb) hl) ?_
  refine h.then_ er S q fun g1 I1 H1 st1 xm v a1 b1 S1 er1 r1 q1 => ?_
  refine ⟨m_tyV C S1 r1 q1.1, ?_⟩
  exact fun pins s σ v us I r1' r2' => thn (bmt_ok C m S1 r1 (show RepVs T.K g1 I1 [] [] from rfl) q1.2 pins s σ v us I r1' r2') fun _ _ ⟨z, H3, I3, r3, q3⟩ => ⟨z, H3, I3, r3, QV.from_ a1 b1 q3⟩
end
end Snd
-- SV
namespace Snd
open PySem L2 Mi
/-! ### replace of one sign; a token is out behind a written text -/
theorem occ_nilC {x : Str} {c : Nat} (h : c ∉ x.cps.toList) (n : Nat) : Builtin.Str.occurrences x ⟨#[c]⟩ 0 x.length n = [] := by
  obtain ⟨f, hc⟩ := StrLaws.occ_chain x ⟨#[c]⟩ n
  cases e : Builtin.Str.occurrences x ⟨#[c]⟩ 0 x.length n with
  | nil => rfl
  | cons a r =>
    rw [e] at hc
    exact absurd (List.mem_of_getElem? ((StrLaws.subAt_one x c a).mp hc.2.1)) h
theorem repl_toS (c : Nat) (z t : Tx) : Txt.replace (toS t) ⟨#[c]⟩ (toS z) = toS (joinBy z (splitOn c t)) := by
  have hs := split_toS c t
  unfold Txt.split at hs
  have one : ∀ {ws : List Tx}, [toS t] = ws.map toS → toS t = toS (joinBy z ws) := fun {ws} e => by
    cases ws with
    | nil => simp at e
    | cons w ws =>
      simp at e
      obtain ⟨e1, rfl⟩ := e
      exact e1
  unfold Txt.replace
  by_cases h0 : (Builtin.Str.occurrences (toS t) ⟨#[c]⟩ 0 (toS t).length ((toS t).length + 1)).isEmpty = true
  · rw [h0] at hs ⊢
    simp only [if_true, Bool.true_or, ite_self] at hs ⊢
    exact one hs
  · have h1 : ((⟨#[c]⟩ : Str).length == 0 && (toS z).length == 0) = false := rfl
    rw [h1, Bool.or_false, if_neg h0]
    rw [if_neg h0] at hs
    split at hs
    · rename_i hc
      rw [Bool.or_eq_true, decide_eq_true_eq, decide_eq_true_eq] at hc
      refine absurd ?_ h0
      have hn : c ∉ (toS t).cps.toList := by
        rcases hc with h | h
        · intro hm
          obtain ⟨j, hj⟩ := List.getElem?_of_mem hm
          have := ((StrLaws.subAt_one (toS t) c j).mpr hj).1
          omega
        · exact StrLaws.kind_free _ _ h
      rw [occ_nilC hn]; rfl
    · rw [hs, StrLaws.glued_eq_join, join_toS]
section
variable {T : Tab} {Φ : Phi} {L : Nat} {X : Cx}
def RunAT (X : Cx) (es : List Expr) (σ : HS) (H : Hp) (Q : List V → Hp → Prop) : Prop := ∀ (pos : Pos) (pins : List (Addr × Obj)) (s : Shared), 1 ≤ s.toks → Inv X pins σ H s → wpAny (model X.prog X.w) X.A (spliced (backTo pos (starEach es X.env))) (AP X pins σ Q) X.xe s
/-- arguments, one token out -/
def GoodAT (T : Tab) (Φ : Phi) (X : Cx) (ia : IA) (es : List Expr) : Prop := ∀ (g : Mu) (I F H : Hp) (st : Sto) (env : Mi.Env) (σ : HS) (Q : List MV → Sto → Prop) (XP : Xp), ER T X XP g I F env σ → T.Sim g I F H st → wpA T.P Φ ia env st Q XP → RunAT X es σ H (QA T g I F Q)
theorem good_atn : GoodAT T Φ X .nil [] := fun g I F H st env σ Q XP er S q pos pins s _ I0 => (good_anil (T := T) (Φ := Φ) (X := X)) g I F H st env σ Q XP er S q pos pins s I0
theorem good_atc {e : IE} {r : IA} {x : Expr} {xs : List Expr} (he : GoodE T Φ X e x) (hr : GoodAT T Φ X r xs) (hs : noStar [x] = true) : GoodAT T Φ X (.cons e r) (x :: xs) := by
  intro g I F H st env σ Q XP er S q pos pins s hk I0
  have hs' : starEach (x :: xs) X.env = (false, eval x X.env) :: starEach xs X.env := by
    cases x <;> first | rfl | exact absurd hs Bool.false_ne_true
  rw [hs']
  show wpAny _ _ (spliced ((false, eval x X.env) :: backTo pos (starEach xs X.env))) _ _ s
  refine Calls.spliced_cons (wpAny_mono (PySem.wpAny_toks (he g I F H st env σ _ XP er S q pins s I0)) (fun v s1 z => ?_) fun _ _ z => z.2)
  obtain ⟨hk1, v', H1, I1, r1, g1, J1, y, st1, a1, b1, S1, ry, q1⟩ := z
  refine thn (hr g1 J1 F H1 st1 env σ _ XP (er.mono a1 b1) S1 q1 pos pins s1 (Nat.le_trans hk hk1) I1) fun us s2 ⟨vs, H2, I2, r2, g2, J2, ys, st2, a2, b2, S2, rys, q2⟩ => ?_
  exact ⟨v' :: vs, H2, I2, .cons r1 r2, g2, J2, y :: ys, st2, a1.trans a2, b1.trans b2, S2, ⟨v', vs, rfl, ry.mono a2 b2, rys⟩, q2⟩
theorem good_rep {a : IE} {c : Nat} {z : Tx} {r : IA} {o : Expr} {xs : List Expr} {j k : Nat} {c0 c1 apos pos : Pos} (he : GoodE T Φ X a o) (hr : GoodAT T Φ X r xs) (hz : [c] ≠ z) (hb : okBase o = true) (hl : (apos.endLine == pos.line) = true) :
    GoodAT T Φ X (.rep a c z r) (.Call (.Attribute o "replace" apos) [.Constant (.str (toS [c])) j c0, .Constant (.str (toS z)) k c1] [] pos :: xs) := by
  intro g I F H st env σ Q XP er S q pos' pins s hk I0
  show wpAny _ _ (spliced ((false, eval (.Call (.Attribute o "replace" apos) [.Constant (.str (toS [c])) j c0, .Constant (.str (toS z)) k c1] [] pos) X.env) :: backTo pos' (starEach xs X.env))) _ _ s
  have hyz : ((toS [c]) == (toS z)) = false := by
    refine Bool.eq_false_iff.mpr fun e => hz (toS_inj (eq_of_beq e))
  have key := CwR.pet_replC (X := X) (o := o) (to := RunE X o) (y := toS [c]) (z := toS z) (j := j) (k := k) (c0 := c0) (c1 := c1) (apos := apos) (pos := pos) rE hyz rfl (base_ok hb) hl
  refine Calls.spliced_cons (wpAny_mono (PySem.wpAny_toks (key pins s σ H (fun v H1 => ∃ g1 J1 t st1, LeM g g1 ∧ LeH I J1 ∧ T.Sim g1 J1 F H1 st1 ∧ v = V.str (toS (joinBy z (splitOn c t))) ∧ wpA T.P Φ r env st1 (fun vs st2 => Q (.str (joinBy z (splitOn c t)) :: vs) st2) XP) hk I0 ?_)) (fun v s1 w => ?_) fun _ _ w => w.2)
  · refine he.then_ er S q fun g1 J1 H1 st1 ym v a1 b1 S1 er1 r1 q1 => ?_
    obtain ⟨t, rfl, hn, q1⟩ := q1
    cases r1
    refine ⟨_, rfl, ?_, g1, J1, t, st1, a1, b1, S1, ?_, q1⟩
    · rw [len_arr, show (toS z).length = z.length from len_arr z]; exact hn
    · exact congrArg V.str (repl_toS c z t)
  · obtain ⟨hk1, v', H1, I1, r1, g1, J1, t, st1, a1, b1, S1, rfl, q1⟩ := w
    refine thn (hr g1 J1 F H1 st1 env σ _ XP (er.mono a1 b1) S1 q1 pos' pins s1 (Nat.le_trans hk hk1) I1) fun us s2 ⟨vs, H2, I2, r2, g2, J2, ys, st2, a2, b2, S2, rys, q2⟩ => ?_
    exact ⟨_, H2, I2, .cons r1 r2, g2, J2, .str (joinBy z (splitOn c t)) :: ys, st2, a1.trans a2, b1.trans b2, S2, ⟨_, vs, rfl, rfl, rys⟩, q2⟩
/-- [l + "c", ..]: behind the first item a token is out -/
theorem good_lstT (C : COk T L X) {o : BOp} {a : IE} {w : Tx} {r : IA} {l : Expr} {xs : List Expr} {j : Nat} {cp p pos : Pos} (ha : GoodE T Φ X a l) (hr : GoodAT T Φ X r xs) :
    GoodE T Φ X (.lstT o a w r) (.List (.BinOp l (bop o) (.Constant (.str (toS w)) j cp) p :: xs) pos) := by
  intro g I F H st env σ Q XP er S q
  refine run_E (pe_lst rA) ?_
  intro pos' pins s I0
  show wpAny _ _ (spliced ((false, eval (.BinOp l (bop o) (.Constant (.str (toS w)) j cp) p) X.env) :: backTo pos' (starEach xs X.env))) _ _ s
  refine Calls.spliced_cons (wpAny_BinOp (thn (ha g I F H st env σ _ XP er S q pins s I0) fun v s1 ⟨x, H1, I1, r1, g1, J1, y, st1, a1, b1, S1, ry, q1⟩ => ?_))
  refine Calls.Constant_str ?_
  have q1 : opBin o y (.str w) st1 (fun v st' => wpA T.P Φ r env st' (fun vs st2 => (v :: vs).length ≤ big ∧ Q (.ref st2.length) (st2 ++ [.lst (v :: vs)])) XP) := q1
  have K := C.K
  have b := bin_ok (X := X) (w := V.str (toS w)) o (by rw [K]; exact S1) (by rw [K]; exact ry) (by rw [K]; rfl) q1
  rw [K] at b
  refine wpAny_mono (PySem.wpAny_toks (b pins { s1 with toks := s1.toks + 1 } σ v (.str (toS w) s1.toks) (I1.tok _) r1 ⟨_, rfl⟩)) (fun u s2 z => ?_) fun _ _ z => z.2
  obtain ⟨hk, u', H2, I2, r2, g2, J2, y2, st2, a2, b2, S2, ry2, q2⟩ := z
  have hk : s1.toks + 1 ≤ s2.toks := hk
  refine thn (hr g2 J2 F H2 st2 env σ _ XP (er.mono (a1.trans a2) (b1.trans b2)) S2 q2 pos' pins s2 (by omega) I2) fun us s3 ⟨vs, H3, I3, r3, g3, J3, ys, st3, a3, b3, S3, rys, q3⟩ => ?_
  have rr : RepVs T.K g3 J3 (y2 :: ys) (u' :: vs) := ⟨u', vs, rfl, ry2.mono a3 b3, rys⟩
  exact ⟨u' :: vs, H3, I3, .cons r2 r3, by rw [rr.len, ← big_eq]; exact q3.1, fun p hn => QV.from_ ((a1.trans a2).trans a3) ((b1.trans b2).trans b3) (new_list S3 rr q3.2 hn)⟩
theorem metS_uniq (ts : List Tx) : metS (ts.map toS) = (uniq ts).map toS := by
  have key : ∀ (ts σ : List Tx), (ts.map toS).foldl (fun (σ : List Str) x => if σ.any (· == x) then σ else σ ++ [x]) (σ.map toS) = (ts.foldl (fun (σ : List Tx) x => if σ.any (· == x) then σ else σ ++ [x]) σ).map toS := by
    intro ts
    induction ts with
    | nil => intro σ; rfl
    | cons x r ih =>
      intro σ
      simp only [List.map_cons, List.foldl_cons]
      have e : (σ.map toS).any (· == toS x) = σ.any (· == x) := by
        rw [List.any_map]
        refine congrArg (fun f => σ.any f) (funext fun y => ?_)
        show (toS y == toS x) = (y == x)
        by_cases c : y = x
        · subst c; simp
        · have h1 : (toS y == toS x) = false := by
            refine Bool.eq_false_iff.mpr fun q => c (toS_inj (eq_of_beq q))
          have h2 : (y == x) = false := by simpa using c
          rw [h1, h2]
      rw [e]
      by_cases c : σ.any (· == x) = true
      · rw [if_pos c, if_pos c]; exact ih σ
      · rw [if_neg c, if_neg c]
        have := ih (σ ++ [x])
        rwa [List.map_append] at this
  exact key ts []
theorem lstL_of {cl : Kl} {g : Mu} {I F H : Hp} {st : Sto} {X : Cx} {xs : List MV} {v : V} (S : Sim X.K cl g I F H st) {x : MV} (rx : RepV X.K g I x v) (h : lstOf st x = some xs) : ∃ p vs, v = .ref p ∧ SqL X.K H p vs ∧ RepVs X.K g I xs vs := by
  cases x with
  | lsv ys =>
    cases h
    obtain ⟨p, vs, rfl, h1, h2⟩ := rx
    exact ⟨p, vs, rfl, S.ih.lst h1, h2⟩
  | ref a =>
    obtain ⟨p, hp, rfl⟩ := rx
    simp only [lstOf] at h
    split at h
    · rename_i ys hs
      cases h
      obtain ⟨vs, e1, r1⟩ := S.at_ hp hs
      exact ⟨p, vs, rfl, SqL.of e1, r1⟩
    · cases h
  | _ => cases h
theorem good_lset (TO : TOk T) (C : COk T L X) {a : IE} {z : Expr} {p1 p2 q pos : Pos} (ha : GoodE T Φ X a z) (hg : Gl X (Str.ofString "len")) (hg2 : Gl X (Str.ofString "set")) (hs : noStar [z] = true) :
    GoodE T Φ X (.lset a) (.Call (.Name (Str.ofString "len") p1) [.Call (.Name (Str.ofString "set") p2) [z] [] q] [] pos) := by
  intro g I F H st env σ Q XP er S q'
  refine run_E (pe_lenSetT C.nd_calm hg (by rw [C.mg]; exact TO.bn .len) hg2 (by rw [C.mg]; exact TO.bn .set) rE (star_cons _ hs)) ?_
  refine ha.then_ er S q' fun g1 I1 H1 st1 ym v a1 b1 S1 er1 r1 q1 => ?_
  obtain ⟨ts, hl, hn, q1⟩ := q1
  obtain ⟨p, vs, rfl, h1, r2⟩ := lstL_of (X := X) (by rw [C.K]; exact S1) (by rw [C.K]; exact r1) hl
  rw [C.K] at h1 r2
  have e1 := strs_of r2
  subst e1
  refine ⟨p, ts.map toS, rfl, by rw [C.K]; exact h1, by rw [List.length_map]; exact hn, ?_⟩
  rw [metS_uniq, List.length_map]
  exact QV.from_ a1 b1 (QV.int S1 q1)
end
end Snd
-- S12
namespace Snd
open PySem L2 Mi
section
variable {T : Tab} {Φ : Phi} {L : Nat} {X : Cx}

/-! ### builtins -/
theorem boot_b (b : Blt) : bootBuiltins (Str.ofString (bname b)) = some (bval b) := by
  cases b
  · show bootBuiltins "len" = some (.builtin "len"); decide +kernel
  · show bootBuiltins "abs" = some (.builtin "abs"); decide +kernel
  · show bootBuiltins "int" = some (.type "int"); decide +kernel
  · show bootBuiltins "str" = some (.type "str"); decide +kernel
  · show bootBuiltins "list" = some (.type "list"); decide +kernel
  · show bootBuiltins "tuple" = some (.type "tuple"); decide +kernel
  · show bootBuiltins "max" = some (.builtin "max"); decide +kernel
  · show bootBuiltins "min" = some (.builtin "min"); decide +kernel
  · show bootBuiltins "sum" = some (.builtin "sum"); decide +kernel
  · show bootBuiltins "all" = some (.builtin "all"); decide +kernel
  · show bootBuiltins "any" = some (.builtin "any"); decide +kernel
  · show bootBuiltins "sorted" = some (.builtin "sorted"); decide +kernel
  · show bootBuiltins "repr" = some (.builtin "repr"); decide +kernel
  · show bootBuiltins "dict" = some (.type "dict"); decide +kernel
  · show bootBuiltins "set" = some (.type "set"); decide +kernel
  · show bootBuiltins "range" = some (.type "range"); decide +kernel
theorem b_name (b : Blt) : Str.ofString (bname b) ≠ "__name__" := by cases b <;> decide +kernel
theorem b_debug (b : Blt) : (Str.ofString (bname b) == ("__debug__" : Str)) = false := by cases b <;> decide +kernel
theorem pe_callV {b : Blt} {r : List V → Hp → VK → Prop} {p pos : Pos} {e : Expr} {es : List Expr} {t : TA} (hc : CallR X (bval b) r) (hg : Gl X (Str.ofString (bname b))) (hm : X.mg (Str.ofString (bname b)) = none) (ha : PA X (e :: es) t)
    (he : starEach (e :: es) X.env = (false, eval e X.env) :: starEach es X.env) (hpl : (backTo pos (starEach es X.env)).any (·.1) = false) : PE X (.Call (.Name (Str.ofString (bname b)) p) (e :: es) [] pos) (tCB r t) := by
  have h1 := boot_b b
  have h2 := b_name b
  have h3 := b_debug b
  cases b <;> first | exact pe_callB hc hg hm h1 ha h2 h3 he hpl | exact pe_callTy hc hg hm h1 ha h2 h3 he hpl
theorem good_blt (TO : TOk T) (C : COk T L X) {b : Blt} {es : IA} {x : Expr} {xs : List Expr} {p pos : Pos} (hA : GoodA T Φ X es (x :: xs)) (hg : Gl X (Str.ofString (bname b))) (hs : noStar (x :: xs) = true) :
    GoodE T Φ X (.blt b es) (.Call (.Name (Str.ofString (bname b)) p) (x :: xs) [] pos) := by
  intro g I F H st env σ Q XP er S q
  refine run_E (pe_callV cSem_ok hg (by rw [C.mg]; exact TO.bn b) rA (star_cons _ hs) (star_free _ _ (noStar_tail hs))) ?_
  refine hA.then_ er S q fun g1 I1 H1 st1 ys vs a1 b1 S1 er1 r1 q1 => ?_
  have K := C.K
  rw [TO.rp] at q1
  have z := blt_ok (X := X) C.nd_calm C.gu C.u b (by rw [K]; exact S1) (by rw [K]; exact r1) q1
  rw [K] at z
  exact fun pins s σ us I r1' => thn (z pins s σ us I r1') fun _ _ ⟨z, H3, I3, r3, q3⟩ => ⟨z, H3, I3, r3, QV.from_ a1 b1 q3⟩

/-! ### isinstance(x, T) -/
def isiB (t : ITy) (n : String) : Bool := match t with | .own _ => false | t => kitB n (tyName t) == some (n == tyName t || (n == "bool" && tyName t == "int"))
theorem kit_of (t : ITy) (ht : ∀ c, t ≠ .own c) : ∀ n ∈ ["NoneType", "bool", "int", "str", "tuple", "list", "dict"], kitB n (tyName t) = some (n == tyName t || (n == "bool" && tyName t == "int")) := by
  cases t with
  | own c => exact absurd rfl (ht c)
  | _ => decide +kernel
theorem boot_ty (t : ITy) (ht : ∀ c, t ≠ .own c) : bootBuiltins (Str.ofString (tyName t)) = some (.type (tyName t)) := by
  cases t with
  | own c => exact absurd rfl (ht c)
  | int => show bootBuiltins "int" = some (.type "int"); decide +kernel
  | bool => show bootBuiltins "bool" = some (.type "bool"); decide +kernel
  | str => show bootBuiltins "str" = some (.type "str"); decide +kernel
  | tuple => show bootBuiltins "tuple" = some (.type "tuple"); decide +kernel
  | list => show bootBuiltins "list" = some (.type "list"); decide +kernel
  | dict => show bootBuiltins "dict" = some (.type "dict"); decide +kernel
theorem isi_ok {X : Cx} {g : Mu} {I F H : Hp} {st : Sto} {cl : Kl} {t : ITy} (ht : ∀ c, t ≠ .own c) {x : MV} {v : V} {Q : Bool → Sto → Prop} (S : Sim X.K cl g I F H st) (r : RepV X.K g I x v) (h : opIsi t x st Q) :
    ∃ (n : String) (b : Bool), TyX X.K H v (.type n) ∧ PySem.W.kitOne X.K (.type n) (.type (tyName t)) = some b ∧ Q b st := by
  have K := kit_of t ht
  have fin : ∀ {n : String} {b : Bool}, n ∈ ["NoneType", "bool", "int", "str", "tuple", "list", "dict"] → b = (n == tyName t || (n == "bool" && tyName t == "int")) → PySem.W.kitOne X.K (.type n) (.type (tyName t)) = some b := fun {n b} hn hb => by
    rw [hb]; exact kit_ty (K n hn)
  cases x with
  | non => cases r; exact ⟨"NoneType", false, .base .non, fin (by decide) (by cases t <;> first | decide | exact absurd rfl (ht _)), h⟩
  | bl b => cases r; exact ⟨"bool", _, .base (.bl b), fin (by decide) (by cases t <;> first | decide | exact absurd rfl (ht _)), h⟩
  | int i => cases r; exact ⟨"int", _, .base (.int i), fin (by decide) (by cases t <;> first | decide | exact absurd rfl (ht _)), h⟩
  | str s => cases r; exact ⟨"str", _, .base (.str _), fin (by decide) (by cases t <;> first | decide | exact absurd rfl (ht _)), h⟩
  | tup xs =>
    obtain ⟨p, vs, rfl, h1, _⟩ := r
    refine ⟨"tuple", _, ?_, fin (by decide) (by cases t <;> first | decide | exact absurd rfl (ht _)), h⟩
    rcases S.ih.tup h1 with (e | ⟨o, e⟩) | e
    · exact .base (.tup e)
    · exact .fTuple e
    · obtain ⟨o, _, _, hk, hc, _⟩ := e
      exact .kTuple hk hc
  | lsv xs =>
    obtain ⟨p, vs, rfl, h1, _⟩ := r
    refine ⟨"list", _, ?_, fin (by decide) (by cases t <;> first | decide | exact absurd rfl (ht _)), h⟩
    rcases S.ih.lst h1 with (e | ⟨o, e⟩) | e
    · exact .base (.lst e)
    · exact .base (.frz e)
    · obtain ⟨o, _, _, hk, hc, _⟩ := e
      exact .kList hk hc
  | ref a =>
    obtain ⟨p, hp, rfl⟩ := r
    simp only [opIsi] at h
    split at h
    · rename_i xs hs
      obtain ⟨vs, e1, _⟩ := S.at_ hp hs
      exact ⟨"list", _, .base (.lst e1), fin (by decide) (by cases t <;> first | decide | exact absurd rfl (ht _)), h⟩
    · rename_i lk kvs hs
      obtain ⟨ws, e1, _⟩ := dic_rd S hp hs
      refine ⟨"dict", _, ?_, fin (by decide) (by cases t <;> first | decide | exact absurd rfl (ht _)), h⟩
      rcases e1 with e | ⟨o, e⟩
      · exact .base (.dK e)
      · exact .fDict e
    · exact h.elim
theorem good_isi (TO : TOk T) (C : COk T L X) {a : IE} {t : ITy} {y : Expr} {p p2 pos : Pos} (ht : ∀ c, t ≠ .own c) (ha : GoodE T Φ X a y) (hg : Gl X (Str.ofString "isinstance")) (hz : Gl X (Str.ofString (tyName t))) (hs : noStar [y] = true)
    (hd : (Str.ofString (tyName t) == ("__debug__" : Str)) = false) (hn : Str.ofString (tyName t) ≠ "__name__") :
    GoodE T Φ X (.isi a t) (.Call (.Name (Str.ofString "isinstance") p) [y, .Name (Str.ofString (tyName t)) p2] [] pos) := by
  intro g I F H st env σ Q XP er S q
  have hty : PE X (.Name (Str.ofString (tyName t)) p2) (fun _ H Q => Q (.ty (tyName t)) H) := ⟨fun pins s σ H Q I0 h => ld_blt I0 hz (by rw [C.mg]; exact TO.tys t ht) (boot_ty t ht) ⟨.ty (tyName t), H, I0, rfl, h⟩ hn hd⟩
  have hs2 : starEach [y, .Name (Str.ofString (tyName t)) p2] X.env = (false, eval y X.env) :: starEach [.Name (Str.ofString (tyName t)) p2] X.env := by
    cases y <;> first | rfl | exact absurd hs Bool.false_ne_true
  refine run_E (pe_callB call_isi hg (by rw [C.mg]; exact TO.isi) (by show bootBuiltins "isinstance" = _; decide +kernel) (pa_cons rE (pa_cons hty pa_nil) hs2) (by decide +kernel) (by decide +kernel) hs2 rfl) ?_
  refine ha.then_ er S q fun g1 I1 H1 st1 ym v a1 b1 S1 er1 r1 q1 => ?_
  have K := C.K
  obtain ⟨n, b, h1, h2, q2⟩ := isi_ok (X := X) ht (by rw [K]; exact S1) (by rw [K]; exact r1) q1
  exact ⟨v, .ty (tyName t), .type n, .type (tyName t), b, rfl, .ty _, h1, h2, QV.from_ a1 b1 (QV.bl S1 q2)⟩

/-! ### list(range(n)) -/
theorem good_lrg (TO : TOk T) (C : COk T L X) {a : IE} {z : Expr} {p1 p2 p3 pos : Pos} (ha : GoodE T Φ X a z) (hg : Gl X (Str.ofString "list")) (hr : Gl X (Str.ofString "range")) (hs : noStar [z] = true) :
    GoodE T Φ X (.lrg a) (.Call (.Name (Str.ofString "list") p1) [.Call (.Name (Str.ofString "range") p2) [z] [] p3] [] pos) := by
  intro g I F H st env σ Q XP er S q
  refine run_E (pe_listRg C.nd_calm hg (by rw [C.mg]; exact TO.bn .list) (prg_1 hr (by rw [C.mg]; exact TO.rng) rE (star_cons _ hs)) rfl) ?_
  refine ha.then_ er S q fun g1 I1 H1 st1 ym v a1 b1 S1 er1 r1 q1 => ?_
  obtain ⟨n, rfl, hn0, hn, q1⟩ := q1
  cases r1
  refine ⟨n, rfl, ?_, fun p hp => QV.from_ a1 b1 (new_list S1 ?_ q1 hp)⟩
  · unfold RgOk
    omega
  · unfold rgV
    rw [show (n - 0).toNat = n.toNat by rw [Int.sub_zero]]
    exact RepVs.map (f := fun (i : Nat) => MV.int (i : Int)) (f' := fun i => V.int (0 + (i : Nat))) (fun i => by show V.int _ = V.int _; rw [Int.zero_add]) _
end
end Snd
-- SY
namespace Snd
open PySem L2 Mi LiI
section
variable {K : PySem.W.Frag} {cl : Kl} {g g' : Mu} {I I' F F' H H' : Hp} {st : Sto} {a : Nat} {p : Addr} {o : MO}
theorem tabs_ext {T : List (Addr × Str)} (t : LamX.Tabs T H) (h : LeH H H') : LamX.Tabs T H' := fun z hz => by
  obtain ⟨ps, h1, h2, h3⟩ := t z hz
  exact ⟨ps, h _ _ h1, h2, fun pos cv e => let ⟨c, e1, e2⟩ := h3 pos cv e; ⟨c, e1, h _ _ e2⟩⟩
/-- more heap -/
theorem Sim.ext (S : Sim K cl g I F H st) (h : LeH H H') : Sim K cl g I F H' st where
  obj := fun b o e => by
    obtain ⟨q, h1, h2⟩ := S.obj b o e
    obtain ⟨u, hu⟩ := S.tracked h1
    exact ⟨q, h1, h2.mono (LeM.refl _) (LeH.refl _) (by rw [h _ _ hu, hu]) rfl⟩
  dom := S.dom
  inj := S.inj
  ih := S.ih.trans h
  im := S.im
  fh := S.fh.trans h
  fm := S.fm
  fi := S.fi
  tb := tabs_ext S.tb h
  ti := S.ti
  tf := S.tf
/-- frozen objects that stand there already -/
theorem Sim.froze (S : Sim K cl g I F H st) {W : Addr → Bool} (hn : ∀ b, W b = true → (∀ a q, g a = some q → q ≠ b) ∧ F b = none ∧ I b = none ∧ ∀ u, H b = some u → noT u = true) :
    Sim K cl g (fun b => if W b = true then H b else I b) F H st where
  obj := fun b o e => by
    obtain ⟨q, h1, h2⟩ := S.obj b o e
    refine ⟨q, h1, h2.mono (LeM.refl _) (fun z y h => ?_) rfl rfl⟩
    by_cases c : W z = true
    · rw [(hn z c).2.2.1] at h; cases h
    · simp only [c]; exact h
  dom := S.dom
  inj := S.inj
  ih := fun z y h => by
    by_cases c : W z = true
    · simpa only [c, if_true] using h
    · simp only [c] at h; exact S.ih _ _ h
  im := fun b q h => by
    by_cases c : W q = true
    · exact absurd rfl ((hn q c).1 b q h)
    · simp only [c]; exact S.im b q h
  fh := S.fh
  fm := S.fm
  fi := fun q o h => by
    by_cases c : W q = true
    · rw [(hn q c).2.1] at h; cases h
    · simp only [c]; exact S.fi q o h
  tb := S.tb
  ti := fun q u h => by
    by_cases c : W q = true
    · exact (hn q c).2.2.2 u (by simpa only [c, if_true] using h)
    · simp only [c] at h; exact S.ti q u h
  tf := S.tf
end
section
variable {T : Tab} {Φ : Phi} {L : Nat} {X : Cx}
theorem paired_at {α β : Type} {R : α → β → Prop} {xs : List α} {ys : List β} (h : Paired R xs ys) : xs.length = ys.length ∧ ∀ (i : Nat) (x : α) (y : β), xs[i]? = some x → ys[i]? = some y → R x y := by
  induction h with
  | nil => exact ⟨rfl, fun i x y e => by simp at e⟩
  | cons r _ ih =>
    refine ⟨by simp [ih.1], fun i x y e1 e2 => ?_⟩
    cases i with
    | zero => simp at e1 e2; subst e1; subst e2; exact r
    | succ i => simp only [List.getElem?_cons_succ] at e1 e2; exact ih.2 i x y e1 e2
theorem repKV_at {K : PySem.W.Frag} {g : Mu} {I : Hp} {kvs : List (MV × MV)} {ws : List (Key × V)} (r : RepKV K g I kvs ws) : kvs.length = ws.length ∧ ∀ {i : Nat} {k x : MV}, kvs[i]? = some (k, x) → ∃ k' v, ws[i]? = some (k', v) ∧ RepV K g I k (kV k') ∧ RepV K g I x v := by
  induction r with
  | nil => exact ⟨rfl, fun {i k x} h => by simp at h⟩
  | @cons a y a' v r r' h1 h2 _ ih =>
    refine ⟨by simp [ih.1], fun {i k x} h => ?_⟩
    cases i with
    | zero =>
      simp at h
      obtain ⟨rfl, rfl⟩ := h
      refine ⟨a', v, rfl, ?_, h2⟩
      cases a <;> simp [keyV] at h1 <;> subst h1 <;> rfl
    | succ i =>
      simp only [List.getElem?_cons_succ] at h ⊢
      exact ih.2 h
theorem good_lit (TO : TOk T) (C : COk T L X) {a : IE} {z : Expr} {p1 apos cpos pos : Pos} (ha : GoodE T Φ X a z) (hg : Gl X (Str.ofString "list")) (hb : okBase z = true) (hl : (apos.endLine == cpos.line) = true) :
    GoodE T Φ X (.lit a) (.Call (.Name (Str.ofString "list") p1) [.Call (.Attribute z "items" apos) [] [] cpos] [] pos) := by
  intro g I F H st env σ Q XP er S q
  refine run_E (pe_listItems C.nd_calm rE hg (by rw [C.mg]; exact TO.bn .list) (by show bootBuiltins "list" = some (.type "list"); decide +kernel) (base_ok hb) hl rfl) ?_
  refine ha.then_ er S q fun g1 I1 H1 st1 ym v a1 b1 S1 er1 r1 q1 => ?_
  obtain ⟨n, kvs, rfl, hs, q1⟩ := q1
  obtain ⟨d, hd, rfl⟩ := r1
  obtain ⟨ws, e1, rk⟩ := S1.at_ hd hs
  refine ⟨d, ws, rfl, e1, fun H' p ts hk hp ht hpt hl pr => ?_⟩
  obtain ⟨l1, p1⟩ := paired_at pr
  obtain ⟨l2, k1⟩ := repKV_at rk
  -- all but the list
  let H0 : Hp := fun b => if b = p then none else H' b
  have hk0 : LeH H1 H0 := fun b o e => by
    have : b ≠ p := fun z => by rw [z, hp] at e; cases e
    simp only [H0, this, if_false]
    exact hk b o e
  have hu : upd H0 p (.lst (ts.map V.ref)) = H' := by
    funext b
    by_cases e : b = p
    · subst e; rw [upd_same, hl]
    · rw [upd_ne e]; simp only [H0, e, if_false]
  have S2 := S1.ext hk0
  have S3 := S2.froze (W := fun b => decide (b ∈ ts)) (fun b hb => by
    have hb : b ∈ ts := of_decide_eq_true hb
    have hb1 := ht b hb
    refine ⟨fun a q e z => ?_, ?_, ?_, fun u hu => ?_⟩
    · obtain ⟨o, ho⟩ := S1.tracked e
      rw [z, hb1] at ho; cases ho
    · cases e : F b with
      | none => rfl
      | some o => have := S1.fh _ _ e; rw [hb1] at this; cases this
    · cases e : I1 b with
      | none => rfl
      | some o => have := S1.ih _ _ e; rw [hb1] at this; cases this
    · obtain ⟨i, hi, ei⟩ := List.mem_iff_getElem.mp hb
      have hw : i < ws.length := by omega
      have r := p1 i b ws[i] (by rw [← ei]; exact List.getElem?_eq_getElem hi) (List.getElem?_eq_getElem hw)
      have : b ≠ p := fun z => hpt (z ▸ hb)
      simp only [H0, this, if_false] at hu
      rw [r] at hu; cases hu; rfl)
  have leI : LeH I1 (fun b => if decide (b ∈ ts) = true then H0 b else I1 b) := fun b o e => by
    have : b ∉ ts := fun z => by have := S1.ih _ _ e; rw [ht b z] at this; cases this
    simp only [this, decide_false, Bool.false_eq_true, if_false]
    exact e
  refine QV.from_ (a1.trans (LeM.refl _)) (b1.trans leI) ?_
  rw [← hu]
  refine new_list S3 (RepVs.of_get (by simp; omega) fun i x v hx hv => ?_) q1 (by simp [H0])
  rw [List.getElem?_map] at hx hv
  cases hz : kvs[i]? with
  | none => rw [hz] at hx; cases hx
  | some z =>
    rw [hz] at hx; cases hx
    obtain ⟨k, y⟩ := z
    cases ht' : ts[i]? with
    | none => rw [ht'] at hv; cases hv
    | some t =>
      rw [ht'] at hv; cases hv
      obtain ⟨k', w, e2, e3, e4⟩ := k1 hz
      have r := p1 i t _ ht' e2
      have tm : t ∈ ts := List.mem_of_getElem? ht'
      have : t ≠ p := fun z => hpt (z ▸ tm)
      refine ⟨t, [kV k', w], rfl, .inl (.inl ?_), _, _, rfl, e3.mono (LeM.refl _) leI, _, _, rfl, e4.mono (LeM.refl _) leI, rfl⟩
      simp only [tm, decide_true, if_true, H0, this, if_false]
      exact r

/-! ### a in b, b an own object -/
theorem ino_core (TO : TOk T) (C : COk T L X) (HF : AllF T Φ L) {neg : Bool} {g : Mu} {I F H : Hp} {st : Sto} {env : Mi.Env} {σ : HS} {x y : MV} {v w : V} {Q : Post} {XP : Xp} {pins : List (Addr × Obj)} {s : Shared} {u1 u2 : Value} {R : Value → Shared → Prop} (er : ER T X XP g I F env σ) (S : T.Sim g I F H st)
    (r1 : RepV T.K g I x v) (r2 : RepV T.K g I y w) (I2 : Inv X pins σ H s) (ru1 : RelV v u1) (ru2 : RelV w u2)
    (q : ∃ n c fs q, y = .ref n ∧ st[n]? = some (.ins c fs) ∧ T.P.mt c "__contains__" = some q ∧ Φ q [y, x] st (fun v st3 => ∃ t, v = .bl t ∧ Q (.bl (if neg then !t else t)) st3) XP)
    (hR : ∀ (t : Bool) (s' : Shared), (∃ H', Inv X pins σ H' s' ∧ T.QV g I F Q (.bl t) H') → R (.bool t) s') : wpAny (model X.prog X.w) X.A (compareOp (if neg then .NotIn else .In) u1 u2) R X.xe s := by
  obtain ⟨n, c, fs, qn, rfl, hs, hq, q2⟩ := q
  obtain ⟨p, hp, rfl⟩ := r2
  cases ru2
  obtain ⟨Cl, dx, ws, hc, hH, rf⟩ := S.at_ hp hs
  obtain ⟨Cl', fa, hc', hfa, M, hfn⟩ := TO.mt c _ qn hq
  rw [hc] at hc'; cases hc'
  obtain ⟨mA, O, _⟩ := ins_get I2.hok hH
  obtain ⟨od, J, _⟩ := O.look
  obtain ⟨mm, Fm⟩ := frm I2
  rw [← C.K] at M
  have rr : RepVs T.K g I [.ref n, x] [V.ref p, v] := ⟨_, _, rfl, ⟨p, hp, rfl⟩, _, _, rfl, r1, rfl⟩
  have run : ∀ (R' : Value → Shared → Prop), (∀ (t : Bool) (s' : Shared), (∃ H', Inv X pins σ H' s' ∧ T.QV g I F Q (.bl (if neg then !t else t)) H') → R' (.bool t) s') → wpAny (model X.prog X.w) X.A (call (.ref fa) [.ref p, u1]) R' X.xe s := fun R' hR' =>
    thn (fnc_run C (HF _ _ hfa) (us := [.ref p, u1]) (vs := [.ref p, v]) er (fun _ _ z => z) C.r0 C.gu I2.env0 I2 (.cons rfl (.cons ru1 .nil)) S rr q2) fun u s' ⟨z, H3, I3, r3, g3, m3, xm, st3, a3, b3, S3, r4, t, et, q3⟩ => by
      subst et
      cases r4
      cases r3
      exact hR' t s' ⟨H3, I3, QV.from_ a3 b3 (QV.bl S3 q3)⟩
  cases neg with
  | false => exact PySem.W.in_K Fm I2.ok.mod.kin J M.at_ M.fn (run _ fun t s' z => PySem.wpAny_truthy_bool (hR t s' z))
  | true => exact PySem.W.notIn_K Fm I2.ok.mod.kin J M.at_ M.fn (run _ fun t s' z => PySem.wpAny_truthy_bool (hR (!t) s' z))
theorem good_ino (TO : TOk T) (C : COk T L X) (HF : AllF T Φ L) {neg : Bool} {a b : IE} {l r : Expr} {pos : Pos} (ha : GoodE T Φ X a l) (hb : GoodE T Φ X b r) (hm : behindInMarks (if neg then .NotIn else .In) r = false) :
    GoodE T Φ X (.ino neg a b) (.Compare l [if neg then .NotIn else .In] [r] pos) := by
  intro g I F H st env σ Q XP er S q pins s I0
  exact wpAny_Compare1 (thn (ha g I F H st env σ _ _ er S q pins s I0) fun u1 s1 ⟨v, H1, I1, ru1, g1, m1, x, st1, a1, b1, S1, r1, q1⟩ => thn (hb g1 m1 F H1 st1 env σ _ _ (er.mono a1 b1) S1 q1 pins s1 I1) fun u2 s2 ⟨w, H2, I2, ru2, g2, m2, y, st2, a2, b2, S2, r2, q2⟩ =>
    ino_core TO C HF (er.mono (a1.trans a2) (b1.trans b2)) S2 (r1.mono a2 b2) r2 I2 ru1 ru2 q2 fun t s' ⟨H', I', q'⟩ => ⟨.bl t, H', I', rfl, QV.from_ (a1.trans a2) (b1.trans b2) q'⟩) hm
theorem good_inoT (TO : TOk T) (C : COk T L X) (HF : AllF T Φ L) {neg : Bool} {a b : IE} {l r : Expr} {pos : Pos} (ha : GoodE T Φ X a l) (hb : GoodE T Φ X b r) (hm : behindInMarks (if neg then .NotIn else .In) r = false) :
    GoodT T Φ X (.ino neg a b) (.Compare l [if neg then .NotIn else .In] [r] pos) := by
  intro g I F H st env σ R XP er S q pins s I0
  exact wpAny_isTrue_Compare1 (thn (ha g I F H st env σ _ _ er S q pins s I0) fun u1 s1 ⟨v, H1, I1, ru1, g1, m1, x, st1, a1, b1, S1, r1, q1⟩ => thn (hb g1 m1 F H1 st1 env σ _ _ (er.mono a1 b1) S1 q1 pins s1 I1) fun u2 s2 ⟨w, H2, I2, ru2, g2, m2, y, st2, a2, b2, S2, r2, q2⟩ =>
    ino_core (Q := fun x st1 => ∃ t, truth st1 x = some t ∧ R t x st1) TO C HF (er.mono (a1.trans a2) (b1.trans b2)) S2 (r1.mono a2 b2) r2 I2 ru1 ru2 q2 fun t s' ⟨H', I', g3, m3, xm, st3, a3, b3, S3, r3, t', ht, q3⟩ => PySem.wpAny_truthy_bool (by
      have e : xm = .bl t := by
        cases xm <;> first | (cases r3; rfl) | (obtain ⟨_, _, e, _⟩ := r3; cases e) | (obtain ⟨_, _, e⟩ := r3; cases e) | cases r3
      subst e
      cases ht
      exact ⟨H', I', g3, m3, .bl t, st3, (a1.trans a2).trans a3, (b1.trans b2).trans b3, S3, rfl, q3⟩)) hm
end
end Snd
-- S13
namespace Snd
open PySem L2 Mi
section
variable {T : Tab} {Φ : Phi} {L : Nat} {X : Cx}

/-! ### what is walked -/
def RunI (X : Cx) (tg iter : Expr) : TI := fun σ H R => ∀ (pins : List (Addr × Obj)) (s : Shared), Inv X pins σ H s →
    wpAny (model X.prog X.w) X.A (eval iter X.env) (fun v s1 => wpAny (model X.prog X.w) X.A (pyIter v) (PIE X pins σ tg R) X.xe s1) X.xe s
theorem rI {tg iter : Expr} : PI X tg iter (RunI X tg iter) := ⟨fun pins s σ H R I h => h pins s I⟩
theorem run_I {tg iter : Expr} {t : TI} (h : PI X tg iter t) {σ : HS} {H : Hp} {R : L2.It → Hp → Prop} (q : t σ H R) : RunI X tg iter σ H R := fun pins s I => h.run pins s σ H R I q
theorem PIE.mono {pins : List (Addr × Obj)} {σ : HS} {tg : Expr} {R R' : L2.It → Hp → Prop} {v : Value} {s : Shared} (hr : ∀ J H, R J H → R' J H) (h : PIE X pins σ tg R v s) : PIE X pins σ tg R' v s := by
  obtain ⟨it, fp, tn, J, H', a, b, c, d, e, f⟩ := h
  exact ⟨it, fp, tn, J, H', a, b, c, d, e, hr _ _ f⟩
theorem RunI.mono {tg iter : Expr} {σ : HS} {H : Hp} {R R' : L2.It → Hp → Prop} (h : RunI X tg iter σ H R) (hr : ∀ J H, R J H → R' J H) : RunI X tg iter σ H R' :=
  fun pins s I => thn (h pins s I) fun v s1 q => thn q fun w s2 z => PIE.mono hr z

/-- how a walk of the model's is a walk of ours -/
def ItRel (T : Tab) (g : Mu) (I F : Hp) (J : L2.It) (xs : List MV) (ok : Sto → Prop) : Prop := ∀ (g' : Mu) (I' F' H' : Hp) (st' : Sto) (i : Nat), LeM g g' → LeH I I' → LeH F F' → T.Sim g' I' F' H' st' → ok st' →
  (xs.length ≤ i → J.stop i H') ∧ ∀ x, xs[i]? = some x → J.go i H' ∧ ∀ v H'', J.yld i H' v H'' → ∃ I'', LeH I' I'' ∧ T.Sim g' I'' F' H'' st' ∧ RepV T.K g' I'' x v
def QI (T : Tab) (g : Mu) (I F : Hp) (R : Mi.It → Sto → Prop) : L2.It → Hp → Prop := fun J H1 => ∃ g1 I1 st1 J', LeM g g1 ∧ LeH I I1 ∧ T.Sim g1 I1 F H1 st1 ∧ ItRel T g1 I1 F J J'.xs J'.ok ∧ R J' st1
abbrev NoFin : Sto → (Sto → Prop) → Prop := fun st k => k st
def GoodI (T : Tab) (Φ : Phi) (X : Cx) (ii : II) (tg iter : Expr) : Prop := ∀ (g : Mu) (I F H : Hp) (st : Sto) (env : Mi.Env) (σ : HS) (R : Mi.It → Sto → (Sto → (Sto → Prop) → Prop) → Prop) (XP : Xp), ER T X XP g I F env σ → T.Sim g I F H st →
  wpI T.P Φ ii env st R XP → RunI X tg iter σ H (QI T g I F fun J st1 => R J st1 NoFin)

/-! the four kinds of a value -/
theorem it_tup {g : Mu} {I F : Hp} {p : Addr} {xs : List MV} {vs : List V} (KX : X.K = T.K) (h : SqT T.K I p vs) (r : RepVs T.K g I xs vs) : ItRel T g I F (Itt X.K p) xs fun _ => True := by
  intro g' I' F' H' st' i hg hI hF S _
  have r' := r.mono hg hI
  have h' := S.ih.tup (hI.tup h)
  refine ⟨fun hl => ⟨vs, by rw [KX]; exact h', by rw [r.len]; exact hl⟩, fun x hx => ?_⟩
  obtain ⟨v, hv, rv⟩ := r'.get hx
  refine ⟨⟨vs, v, by rw [KX]; exact h', hv⟩, fun w H'' y => ?_⟩
  obtain ⟨rfl, y⟩ := y
  have := y vs (by rw [KX]; exact h')
  rw [hv] at this
  cases this
  exact ⟨I', LeH.refl _, S, rv⟩
theorem it_lsv {g : Mu} {I F : Hp} {p : Addr} {xs : List MV} {vs : List V} (KX : X.K = T.K) (h : SqL T.K I p vs) (r : RepVs T.K g I xs vs) : ItRel T g I F (Itl X.K p) xs fun _ => True := by
  intro g' I' F' H' st' i hg hI hF S _
  have r' := r.mono hg hI
  have h' := S.ih.lst (hI.lst h)
  refine ⟨fun hl => ⟨vs, by rw [KX]; exact h', by rw [r.len]; exact hl⟩, fun x hx => ?_⟩
  obtain ⟨v, hv, rv⟩ := r'.get hx
  refine ⟨⟨vs, v, by rw [KX]; exact h', hv⟩, fun w H'' y => ?_⟩
  obtain ⟨rfl, y⟩ := y
  have := y vs (by rw [KX]; exact h')
  rw [hv] at this
  cases this
  exact ⟨I', LeH.refl _, S, rv⟩
theorem it_lst {g : Mu} {I F : Hp} {p : Addr} {a : Nat} {xs : List MV} (KX : X.K = T.K) (hp : g a = some p) : ItRel T g I F (Itl X.K p) xs fun st' => st'[a]? = some (.lst xs) := by
  intro g' I' F' H' st' i hg hI hF S hs
  obtain ⟨vs, e, r⟩ := S.at_ (hg _ _ hp) hs
  have h' : SqL X.K H' p vs := SqL.of e
  refine ⟨fun hl => ⟨vs, h', by rw [r.len]; exact hl⟩, fun x hx => ?_⟩
  obtain ⟨v, hv, rv⟩ := r.get hx
  refine ⟨⟨vs, v, h', hv⟩, fun w H'' y => ?_⟩
  obtain ⟨rfl, y⟩ := y
  have := y vs h'
  rw [hv] at this
  cases this
  exact ⟨I', LeH.refl _, S, rv⟩
theorem it_str {g : Mu} {I F : Hp} (s : Tx) : ItRel T g I F (Its ⟨s.toArray⟩) (s.map fun c => .str [c]) fun _ => True := by
  intro g' I' F' H' st' i hg hI hF S _
  refine ⟨fun hl => ?_, fun x hx => ?_⟩
  · show (s.toArray).size ≤ i
    simpa using hl
  · rw [List.getElem?_map] at hx
    cases hc : s[i]? with
    | none => rw [hc] at hx; cases hx
    | some c =>
      rw [hc] at hx
      cases hx
      have hlt : i < s.length := (List.getElem?_eq_some_iff.mp hc).1
      refine ⟨by show i < (s.toArray).size; simpa using hlt, fun v H'' y => ?_⟩
      obtain ⟨rfl, c', hc', rfl⟩ := y
      have : (s.toArray)[i]? = some c := by simpa using hc
      have hc' : (s.toArray)[i]? = some c' := hc'
      rw [this] at hc'
      cases hc'
      exact ⟨I', LeH.refl _, S, rfl⟩
theorem it_rng {g : Mu} {I F : Hp} (lo : Int) (n : Nat) : ItRel T g I F (Itr lo n) ((List.range n).map fun (i : Nat) => .int (lo + (i : Int))) fun _ => True := by
  intro g' I' F' H' st' i hg hI hF S _
  refine ⟨fun hl => ?_, fun x hx => ?_⟩
  · show n ≤ i
    simpa using hl
  · rw [List.getElem?_map] at hx
    cases hc : (List.range n)[i]? with
    | none => rw [hc] at hx; cases hx
    | some c =>
      rw [hc] at hx
      cases hx
      obtain ⟨hlt, e⟩ := List.getElem?_eq_some_iff.mp hc
      rw [List.getElem_range] at e
      subst e
      refine ⟨by show i < n; simpa using hlt, fun v H'' y => ?_⟩
      obtain ⟨rfl, rfl⟩ := y
      exact ⟨I', LeH.refl _, S, rfl⟩
/-- a new pair -/
theorem pair_ok {g : Mu} {I F H : Hp} {st : Sto} {q : Addr} {x y : MV} {v w : V} (S : T.Sim g I F H st) (hn : H q = none) (r1 : RepV T.K g I x v) (r2 : RepV T.K g I y w) :
    LeH I (upd I q (.tup [v, w])) ∧ T.Sim g (upd I q (.tup [v, w])) F (upd H q (.tup [v, w])) st ∧ RepV T.K g (upd I q (.tup [v, w])) (.tup [x, y]) (.ref q) := by
  have le : LeH I (upd I q (.tup [v, w])) := fresh_le S.ih hn
  refine ⟨le, S.frozen hn, q, [v, w], rfl, SqT.of upd_same, v, [w], rfl, r1.mono (LeM.refl _) le, w, [], rfl, r2.mono (LeM.refl _) le, rfl⟩
theorem enum_get : ∀ {xs : List MV} {n i : Nat} {x : MV}, (enumFrom n xs)[i]? = some x → ∃ y, xs[i]? = some y ∧ x = .tup [.int ((n + i : Nat) : Int), y]
  | [], _, _, _, h => by simp [enumFrom] at h
  | y :: r, n, 0, x, h => by
    simp [enumFrom] at h
    exact ⟨y, rfl, h.symm⟩
  | y :: r, n, i + 1, x, h => by
    simp only [enumFrom, List.getElem?_cons_succ] at h ⊢
    obtain ⟨z, h1, h2⟩ := enum_get h
    exact ⟨z, h1, by rw [h2]; congr 3; congr 1; omega⟩
theorem enum_len : ∀ (xs : List MV) (n : Nat), (enumFrom n xs).length = xs.length
  | [], _ => rfl
  | _ :: r, n => by simp [enumFrom, enum_len r (n + 1)]
theorem it_enum {g : Mu} {I F : Hp} {p : Addr} {a : Nat} {xs : List MV} (hp : g a = some p) : ItRel T g I F (Ite X.K p) (enumFrom 0 xs) fun st' => st'[a]? = some (.lst xs) := by
  intro g' I' F' H' st' i hg hI hF S hs
  obtain ⟨vs, e, r⟩ := S.at_ (hg _ _ hp) hs
  have h' : SqL X.K H' p vs := SqL.of e
  refine ⟨fun hl => ⟨vs, h', by rw [r.len]; rw [enum_len] at hl; exact hl⟩, fun x hx => ?_⟩
  obtain ⟨y, hy, rfl⟩ := enum_get hx
  obtain ⟨v, hv, rv⟩ := r.get hy
  refine ⟨⟨vs, v, h', hv⟩, fun w H'' z => ?_⟩
  obtain ⟨q, v', rfl, hn, rfl, z⟩ := z
  have := z vs h'
  rw [hv] at this
  cases this
  have := pair_ok (x := .int ((0 + i : Nat) : Int)) (v := .int ((i : Nat) : Int)) S hn (by rw [Nat.zero_add]; rfl) rv
  exact ⟨_, this⟩
theorem it_zip {g : Mu} {I F : Hp} {p q : Addr} {a b : Nat} {xs ys : List MV} (hp : g a = some p) (hq : g b = some q) : ItRel T g I F (Itz X.K p q) ((xs.zip ys).map fun z => .tup [z.1, z.2]) fun st' => st'[a]? = some (.lst xs) ∧ st'[b]? = some (.lst ys) := by
  intro g' I' F' H' st' i hg hI hF S hs
  obtain ⟨vs, e, r⟩ := S.at_ (hg _ _ hp) hs.1
  obtain ⟨ws, e2, r2⟩ := S.at_ (hg _ _ hq) hs.2
  have h' : SqL X.K H' p vs := SqL.of e
  have h2 : SqL X.K H' q ws := SqL.of e2
  refine ⟨fun hl => ⟨vs, ws, h', h2, ?_⟩, fun x hx => ?_⟩
  · rw [List.length_map, List.length_zip] at hl
    rw [r.len, r2.len]
    omega
  · rw [List.getElem?_map] at hx
    cases hz : (xs.zip ys)[i]? with
    | none => rw [hz] at hx; cases hx
    | some z =>
      rw [hz] at hx
      cases hx
      obtain ⟨z1, z2⟩ := z
      obtain ⟨h3, h4⟩ := List.getElem?_zip_eq_some.mp hz
      obtain ⟨v, hv, rv⟩ := r.get h3
      obtain ⟨w, hw, rw_⟩ := r2.get h4
      refine ⟨⟨vs, ws, v, w, h', h2, hv, hw⟩, fun u H'' y => ?_⟩
      obtain ⟨t, v', w', rfl, hn, rfl, y1, y2⟩ := y
      have a1 := y1 vs h'
      have a2 := y2 ws h2
      rw [hv] at a1; rw [hw] at a2
      cases a1; cases a2
      exact ⟨_, pair_ok S hn rv rw_⟩
end
end Snd
-- SZ
namespace Snd
open PySem L2 Mi

/-! ### zip of lists and tuples in any mix; true: a list -/
def SqX (K : PySem.W.Frag) (H : Hp) (k : Bool) (a : Addr) (xs : List V) : Prop := match k with
  | true => SqL K H a xs
  | false => SqT K H a xs
def IsX (h : Heap) (k : Bool) (a : Addr) (its : Array Value) : Prop := match k with
  | true => h.IsList a its
  | false => h.IsTuple a its
def IterX (h : Heap) (k : Bool) (it a : Addr) (i : Nat) : Prop := match k with
  | true => h.IsListIter it a i
  | false => h.IsTupleIter it a i
def ItzM (K : PySem.W.Frag) (k1 k2 : Bool) (a b : Addr) : L2.It where
  go := fun i H => ∃ xs ys x y, SqX K H k1 a xs ∧ SqX K H k2 b ys ∧ xs[i]? = some x ∧ ys[i]? = some y
  yld := fun i H v H' => ∃ T x y, v = V.ref T ∧ H T = none ∧ H' = upd H T (.tup [x, y]) ∧ (∀ xs : List V, SqX K H k1 a xs → xs[i]? = some x) ∧ ∀ ys : List V, SqX K H k2 b ys → ys[i]? = some y
  stop := fun i H => ∃ xs ys, SqX K H k1 a xs ∧ SqX K H k2 b ys ∧ (xs.length ≤ i ∨ ys.length ≤ i)
section
variable {X : Cx} {pins : List (Addr × Obj)} {σ : HS} {H : Hp} {s : Shared}
theorem sqx_is (I : Inv X pins σ H s) {k : Bool} {a : Addr} {xs : List V} (h : SqX X.K H k a xs) : ∃ its : List Value, Vals xs its ∧ IsX s.heap k a its.toArray := by
  cases k with
  | true =>
    rcases (show SqL X.K H a xs from h) with (e | ⟨o, e⟩) | ⟨o, its, n, h1, h2, h3, h4, h5, h6⟩
    · obtain ⟨_, its, n, v, e2⟩ := I.hok _ _ e
      exact ⟨its, v, _, e2, rfl, n, rfl⟩
    · obtain ⟨e1, e2⟩ := I.hok _ _ e
      obtain ⟨_, its, n, v, e3⟩ := e2
      exact ⟨its, v, _, e3, rfl, n, rfl⟩
    · exact ⟨its.toList, h6, _, I.kIn _ _ h1, h2, n, by simpa using h4⟩
  | false =>
    rcases (show SqT X.K H a xs from h) with (e | ⟨o, e⟩) | ⟨o, its, n, h1, h2, h3, h4, h5⟩
    · obtain ⟨_, its, v, o, e2, e3, n, e4⟩ := I.hok _ _ e
      exact ⟨its, v, o, e2, e3, n, e4⟩
    · obtain ⟨e1, e2⟩ := I.hok _ _ e
      obtain ⟨_, its, v, o, e2, e3, n, e4⟩ := e2
      exact ⟨its, v, o, e2, e3, n, e4⟩
    · exact ⟨its.toList, h5, _, I.kIn _ _ h1, h2, n, by simpa using h3⟩
theorem sqx_inj (I : Inv X pins σ H s) {k : Bool} {a : Addr} {xs ys : List V} (h : SqX X.K H k a xs) (h2 : SqX X.K H k a ys) : xs = ys := by
  cases k with
  | true => exact I.list_inj h h2
  | false => exact I.tuple_inj h h2
theorem draws_x {prog : Program} {w : World} {A : Around} (hh : A.handled = none) (k : Bool) (it l : Addr) (ne : l ≠ it) (its : Array Value) :
    Draws prog w A it [it, l] its.size (fun i v => its[i]? = some v) fun i h => IterX h k it l i ∧ IsX h k l its := by
  cases k with
  | true => exact Draws.list hh it l ne its
  | false => exact Draws.tuple hh it l ne its
theorem draws_end {prog : Program} {w : World} {A : Around} (hh : A.handled = none) (k : Bool) (it l : Addr) (ne : l ≠ it) (its : Array Value) (i : Nat) (hi : its[i]? = none) :
    Draws prog w A it [it, l] i (fun _ _ => False) fun j h => j = i ∧ IterX h k it l j ∧ IsX h k l its where
  live := fun j h ⟨_, z, _⟩ => (draws_x (prog := prog) (w := w) hh k it l ne its).live j h ⟨z, by assumption⟩
  frame := fun j h h' ⟨e, z⟩ f => ⟨e, (draws_x (prog := prog) (w := w) hh k it l ne its).frame j h h' z f⟩
  item := fun j s Q E hj ⟨e, _⟩ => absurd e (Nat.ne_of_lt hj)
  done := fun s Q E ⟨_, z, y⟩ q => by
    cases k with
    | true => exact wpAny_nextOf_list_end hh z y hi q
    | false => exact wpAny_nextOf_tuple_end hh z y hi q
theorem draws_at {prog : Program} {w : World} {A : Around} (hh : A.handled = none) (k : Bool) (it l : Addr) (ne : l ≠ it) (its : Array Value) (i : Nat) :
    ∃ n P St, Draws prog w A it [it, l] n P St ∧ (∀ h, IterX h k it l i → IsX h k l its → St i h) ∧ i ≤ n ∧ (its.size ≤ i → i = n) := by
  by_cases e : its.size ≤ i
  · exact ⟨i, _, _, draws_end hh k it l ne its i (by simpa using e), fun h a b => ⟨rfl, a, b⟩, Nat.le_refl _, fun _ => rfl⟩
  · exact ⟨its.size, _, _, draws_x hh k it l ne its, fun h a b => ⟨a, b⟩, by omega, fun z => absurd z e⟩
theorem vals_at {xs : List V} {its : List Value} (h : Vals xs its) {i : Nat} {x : V} (hx : xs[i]? = some x) : ∃ u, its[i]? = some u ∧ RelV x u := by
  induction h generalizing i with
  | nil => simp at hx
  | cons r _ ih =>
    cases i with
    | zero => simp at hx; subst hx; exact ⟨_, rfl, r⟩
    | succ i => simp only [List.getElem?_cons_succ] at hx ⊢; exact ih hx
theorem vals_len {xs : List V} {its : List Value} (h : Vals xs its) : its.length = xs.length := by
  induction h with
  | nil => rfl
  | cons _ _ ih => simp [ih]
theorem iterX_frame {h h' : Heap} {k : Bool} {it a : Addr} {i : Nat} (z : IterX h k it a i) (e : ∀ o, h.get? it = some o → h'.get? it = some o) : IterX h' k it a i := by
  cases k with
  | true => obtain ⟨o, h1, h2⟩ := z; exact ⟨o, e _ h1, h2⟩
  | false => obtain ⟨o, h1, h2⟩ := z; exact ⟨o, e _ h1, h2⟩
theorem iterX_obj {h : Heap} {k : Bool} {it a : Addr} {i : Nat} (z : IterX h k it a i) : ∃ o, h.get? it = some o ∧ ∀ v : Option Value, o.data ≠ Data.cell v := by
  cases k with
  | true => obtain ⟨o, h1, h2, h3⟩ := z; exact ⟨o, h1, fun v e => by rw [h3] at e; cases e⟩
  | false => obtain ⟨o, h1, h2, h3⟩ := z; exact ⟨o, h1, fun v e => by rw [h3] at e; cases e⟩
theorem sep_of {z TI TO i1 i2 a b : Addr} (Z : ZipApart z TI TO i1 i2 a b) : ZipSep2 z TI TO i1 i2 [i1, a] [i2, b] where
  TIz := Z.TIz
  TOz := Z.TOz
  TITO := Z.TITO
  TIi1 := Z.TIi1
  mem1 := by simp
  zf1 := by simp [Ne.symm Z.i1z, Ne.symm Z.l1z]
  Tf1 := by simp [Z.TOi1, Ne.symm Z.l1TO]
  TIi2 := Z.TIi2
  mem2 := by simp
  zf2 := by simp [Ne.symm Z.i2z, Ne.symm Z.l2z]
  Tf2 := by simp [Z.TOi2, Ne.symm Z.l2TO]
  sep1_2 := by simp [Z.i12, Ne.symm Z.l2i1]
  sep2_1 := by simp [Ne.symm Z.i12, Ne.symm Z.l1i2]
theorem turn_zipM {P : Program} {w : World} {K : PySem.W.Frag} {elts : List Expr} {kk : Nat} {tpos : Pos} {k1 k2 : Bool} {a b z TI TO i1 i2 : Addr} (Z : ZipApart z TI TO i1 i2 a b) :
    Turn P w K (.Tuple elts kk tpos) (ItzM K k1 k2 a b) [z, TI, TO, i1, i2] z fun i h =>
      IsZip h z TI TO Value.none ∧ IsPair h TI (Value.ref i1) (Value.ref i2) ∧ (∃ x y, IsPair h TO x y) ∧ IterX h k1 i1 a i ∧ IterX h k2 i2 b i where
  mem := by simp
  obj := fun i h ⟨h1, h2, ⟨x, y, h3⟩, h4, h5⟩ c hc => by
    simp only [List.mem_cons, List.mem_nil_iff, or_false] at hc
    rcases hc with rfl | rfl | rfl | rfl | rfl
    · exact ⟨_, h1, fun v e => by cases e⟩
    · exact ⟨_, h2, fun v e => by cases e⟩
    · exact ⟨_, h3, fun v e => by cases e⟩
    · exact iterX_obj h4
    · exact iterX_obj h5
  keep := fun i h h' ⟨h1, h2, ⟨x, y, h3⟩, h4, h5⟩ k =>
    ⟨k z (by simp) _ h1, k TI (by simp) _ h2, ⟨x, y, k TO (by simp) _ h3⟩, iterX_frame h4 (k i1 (by simp)), iterX_frame h5 (k i2 (by simp))⟩
  self := fun A i s Q E ⟨h1, _⟩ q => wpAny_pyIter_zip h1 q
  item := fun X e1 e2 e3 calm i pins s σ H E I fp tn go => by
    subst e1; subst e2; subst e3
    obtain ⟨h1, h2, h3, h4, h5⟩ := tn
    obtain ⟨xs, ys, x, y, hx, hy, gx, gy⟩ := go
    obtain ⟨its1, v1, is1⟩ := sqx_is I hx
    obtain ⟨its2, v2, is2⟩ := sqx_is I hy
    have hh : X.A.handled = none := I.ok.hd calm
    have G := GoesN.zip2 (prog := X.prog) (w := X.w) (A := X.A) (elts := elts) (x1 := kk) (pos := tpos) (sep_of Z) (draws_x (A := X.A.in1) (k := k1) hh i1 a Z.l1i1 its1.toArray) (draws_x (A := X.A.in1) (k := k2) hh i2 b Z.l2i2 its2.toArray)
    obtain ⟨u1, eu1, r1⟩ := vals_at v1 gx
    obtain ⟨u2, eu2, r2⟩ := vals_at v2 gy
    have lt1 : i < its1.toArray.size := by have := (List.getElem?_eq_some_iff.mp eu1).1; simpa using this
    have lt2 : i < its2.toArray.size := by have := (List.getElem?_eq_some_iff.mp eu2).1; simpa using this
    refine G.goes i s (fun u s2 => ∃ x H', Inv X pins σ H' s2 ∧ RelV x u ∧ (ItzM X.K k1 k2 a b).yld i H x H' ∧ (IsZip s2.heap z TI TO Value.none ∧ IsPair s2.heap TI (Value.ref i1) (Value.ref i2) ∧ (∃ x y, IsPair s2.heap TO x y) ∧ IterX s2.heap k1 i1 a (i + 1) ∧ IterX s2.heap k2 i2 b (i + 1)) ∧ ∀ c ∈ [z, TI, TO, i1, i2], H' c = none) E (Nat.lt_min.mpr ⟨lt1, lt2⟩) ⟨h1, h2, h3, ⟨h4, is1⟩, ⟨h5, is2⟩⟩ fun v h' tk yl st keep _ => ?_
    obtain ⟨T, w1, w2, rfl, hT, ew1, ew2, tup⟩ := yl
    obtain ⟨n1, n2, n3, ⟨n4, _⟩, ⟨n5, _⟩⟩ := st
    have ew1' : its1[i]? = some w1 := by simpa using ew1
    have ew2' : its2[i]? = some w2 := by simpa using ew2
    rw [eu1] at ew1'; cases ew1'
    rw [eu2] at ew2'; cases ew2'
    have hn : H T = none := I.hok.fresh hT
    refine ⟨.ref T, upd H T (.tup [x, y]), I.turnedNew (ch := [z, TO, i1, i2]) keep (fun c hc => fp c (by simp only [List.mem_cons, List.mem_nil_iff, or_false] at hc ⊢; rcases hc with rfl | rfl | rfl | rfl <;> simp)) hT ⟨by simp [sizeLine_eq], [u1, u2], .cons r1 (.cons r2 .nil), tup⟩, rfl, ⟨T, x, y, rfl, hn, rfl, fun xs' hx' => by rw [sqx_inj I hx' hx]; exact gx, fun ys' hy' => by rw [sqx_inj I hy' hy]; exact gy⟩, ⟨n1, n2, n3, n4, n5⟩, fun c hc => ?_⟩
    have hc0 := (fp c hc).1
    refine (upd_ne ?_).trans hc0
    intro e
    obtain ⟨o, ho⟩ : ∃ o, s.heap.get? c = some o := by
      simp only [List.mem_cons, List.mem_nil_iff, or_false] at hc
      obtain ⟨x', y', h3⟩ := h3
      rcases hc with rfl | rfl | rfl | rfl | rfl
      · exact ⟨_, h1⟩
      · exact ⟨_, h2⟩
      · exact ⟨_, h3⟩
      · exact let ⟨o, q, _⟩ := iterX_obj h4; ⟨o, q⟩
      · exact let ⟨o, q, _⟩ := iterX_obj h5; ⟨o, q⟩
    have lt := Heap.lt_size ho
    first
      | (rw [e] at lt; exact absurd lt (Nat.not_lt.mpr hT))
      | (rw [← e] at lt; exact absurd lt (Nat.not_lt.mpr hT))
  done := fun X e1 e2 e3 calm i pins s σ H E I fp tn st => by
    subst e1; subst e2; subst e3
    obtain ⟨h1, h2, h3, h4, h5⟩ := tn
    obtain ⟨xs, ys, hx, hy, ge⟩ := st
    obtain ⟨its1, v1, is1⟩ := sqx_is I hx
    obtain ⟨its2, v2, is2⟩ := sqx_is I hy
    have hh : X.A.handled = none := I.ok.hd calm
    obtain ⟨x, y, h3⟩ := h3
    obtain ⟨n1, P1, S1, D1, p1, l1, f1⟩ := draws_at (prog := X.prog) (w := X.w) (A := X.A.in1) hh k1 i1 a Z.l1i1 its1.toArray i
    obtain ⟨n2, P2, S2, D2, p2, l2, f2⟩ := draws_at (prog := X.prog) (w := X.w) (A := X.A.in1) hh k2 i2 b Z.l2i2 its2.toArray i
    have e1 := vals_len v1
    have e2 := vals_len v2
    refine wpAny_pyNext_zipD2_end (sep_of Z) D1 D2 h1 h2 h3 (p1 _ h4 is1) (p2 _ h5 is2) l1 l2 (ge.elim (fun z => .inl (f1 (by simpa [e1] using z))) (fun z => .inr (f2 (by simpa [e2] using z)))) fun h' tk keep => ⟨rfl, ?_⟩
    exact I.turnedL (ch := [z, TO, i1, i2]) (fun c o hc e => keep c o (fun z => hc (by simp [z])) (fun z => hc (by simp [z])) (fun z => hc (by simp [z])) (fun z => hc (by simp [z])) e) (fun c hc => fp c (by simp only [List.mem_cons, List.mem_nil_iff, or_false] at hc ⊢; rcases hc with rfl | rfl | rfl | rfl <;> simp))
def iterO (k : Bool) (a : Addr) : Obj := match k with
  | true => { cls := Value.type "list_iterator", data := Data.fields #[Value.ref a, Value.int 0 0] }
  | false => { cls := Value.type "tuple_iterator", data := Data.fields #[Value.ref a, Value.int 0 0] }
theorem begins_x (k : Bool) (a : Addr) (its : Array Value) : Begins (Value.ref a) (iterO k a) fun h => IsX h k a its := by
  cases k with
  | true => exact begins_list a its
  | false => exact begins_tuple a its
theorem iterO_is {h : Heap} {k : Bool} {it a : Addr} (e : h.get? it = some (iterO k a)) : IterX h k it a 0 := by
  cases k with
  | true => exact ⟨_, e, rfl, rfl⟩
  | false => exact ⟨_, e, rfl, rfl⟩
theorem isX_lt {h : Heap} {k : Bool} {a : Addr} {its : Array Value} (z : IsX h k a its) : a < h.objs.size := by
  cases k with
  | true => obtain ⟨o, e, _⟩ := z; exact Heap.lt_size e
  | false => obtain ⟨o, e, _⟩ := z; exact Heap.lt_size e
theorem zip_apart (N a b : Nat) (la : a < N) (lb : b < N) : ZipApart (N + 4) (N + 2) (N + 3) N (N + 1) a b := by
  constructor
  all_goals (refine (show @Ne Nat _ _ from ?_); omega)
def iZipM (K : PySem.W.Frag) (ta : TA) : TI := fun σ H R => ta σ H fun vs H1 => ∃ k1 k2 a b xs ys, vs = [.ref a, .ref b] ∧ SqX K H1 k1 a xs ∧ SqX K H1 k2 b ys ∧ R (ItzM K k1 k2 a b) H1
theorem pi_zipM {X : Cx} {e e2 : Expr} {ta : TA} {p pos tpos : Pos} {elts : List Expr} {kk : Nat} (hg : Gl X (Str.ofString "zip")) (hm : X.mg (Str.ofString "zip") = none) (ha : PA X [e, e2] ta)
    (hs : starEach [e, e2] X.env = (false, eval e X.env) :: starEach [e2] X.env) (hpl : ((backTo pos (starEach [e2] X.env)).any fun x => x.1) = false) :
    PI X (.Tuple elts kk tpos) (.Call (.Name (Str.ofString "zip") p) [e, e2] [] pos) (iZipM X.K ta) where
  run := fun pins s σ H R I h => by
    refine PyProof.Rows.Call_ (ld_blt I hg hm PyProof.Rows.boot_zip (PyProof.Rows.callWith_type1 (thn (ha.run pos pins s σ H _ I h) fun us s1 x => ?_) hs hpl) (by decide) (by decide)) rfl
    obtain ⟨vs, H1, I1, r1, k1, k2, a, b, xs, ys, rfl, hx, hy, q⟩ := x
    cases r1 with
    | cons ra rr =>
      cases rr with
      | cons rb rn =>
        cases rn
        cases ra
        cases rb
        obtain ⟨its1, v1, is1⟩ := sqx_is I1 hx
        obtain ⟨its2, v2, is2⟩ := sqx_is I1 hy
        refine zip_begins2 (begins_x k1 a its1.toArray) (begins_x k2 b its2.toArray) is1 is2 fun h' z1 z2 z3 o1 o2 sz keep => ?_
        have la := isX_lt is1
        have lb := isX_lt is2
        have I2 : Inv X pins σ H1 { heap := h', gens := s1.gens, drawn := s1.drawn, toks := s1.toks, os := s1.os } := I1.kept keep
        refine wpAny_pyIter_zip z1 ⟨_, [s1.heap.objs.size + 4, s1.heap.objs.size + 2, s1.heap.objs.size + 3, s1.heap.objs.size, s1.heap.objs.size + 1], _, ItzM X.K k1 k2 a b, H1, rfl, I2, turn_zipM ?_, ⟨z1, z2, ⟨_, _, z3⟩, iterO_is o1, iterO_is o2⟩, fun c hc => ?_, q⟩
        · exact zip_apart s1.heap.objs.size a b la lb
        · have hle : s1.heap.objs.size ≤ c := by
            simp only [List.mem_cons, List.mem_nil_iff, or_false] at hc
            rcases hc with e | e | e | e | e <;> rw [e] <;> first | exact Nat.le_refl _ | exact Nat.le_add_right _ _
          have f := I1.fpOk hle (I1.hok.fresh hle)
          exact f
end
end Snd
-- S14
namespace Snd
open PySem L2 Mi
section
variable {T : Tab} {Φ : Phi} {L : Nat} {X : Cx}

/-! ### a value walked -/
def kAny (X : Cx) (te : TE) : TI := fun σ H R => te σ H fun x H1 => (∃ a, x = .ref a ∧ (∃ xs, SqL X.K H1 a xs) ∧ R (Itl X.K a) H1) ∨ (∃ a, x = .ref a ∧ (∃ xs, SqT X.K H1 a xs) ∧ R (Itt X.K a) H1) ∨ ∃ z, x = .str z ∧ R (Its z) H1
theorem one_it {pins : List (Addr × Obj)} {σ : HS} {H : Hp} {s : Shared} (I : Inv X pins σ H s) : ∀ b ∈ [s.heap.objs.size], FpOk X pins H b := fun b hb => by
  obtain rfl : b = s.heap.objs.size := List.mem_singleton.mp hb
  exact I.fpOk (Nat.le_refl _) (I.hok.fresh (Nat.le_refl _))
theorem pi_any {tg e : Expr} {te : TE} (he : PE X e te) : PI X tg e (kAny X te) := by
  refine ⟨fun pins s σ H R I h => thn (he.run pins s σ H _ I h) fun v s1 ⟨x, H1, I1, rx, q1⟩ => ?_⟩
  rcases q1 with ⟨a, rfl, ⟨xs, hq⟩, q⟩ | ⟨a, rfl, ⟨xs, hq⟩, q⟩ | ⟨z, rfl, q⟩
  · cases rx
    obtain ⟨its, _, pl, _⟩ := I1.list hq
    exact wpAny_pyIter_list pl.isList ⟨_, [_], _, _, H1, rfl, I1.kept (t' := s1.toks) (fun _ _ z => Heap.get?_push_of_some _ z), turn_list a _, ⟨_, Heap.get?_push_size _ rfl, rfl, rfl⟩, one_it I1, q⟩
  · cases rx
    obtain ⟨its, _, pl, _⟩ := I1.tuple hq
    exact wpAny_pyIter_tuple pl ⟨_, [_], _, _, H1, rfl, I1.kept (t' := s1.toks) (fun _ _ z => Heap.get?_push_of_some _ z), turn_tuple a _, ⟨_, Heap.get?_push_size _ rfl, rfl, rfl⟩, one_it I1, q⟩
  · obtain ⟨t, rfl⟩ := rx
    cases ha : z.cps.all (· < 128)
    · exact wpAny_pyIter_wide ha (pi_one (tk := s1.toks) I1 _ (turn_str _ z t "str_iterator" (.inr rfl)) ⟨_, Heap.get?_push_size _ rfl, rfl, rfl⟩ q)
    · exact wpAny_pyIter_ascii ha (pi_one (tk := s1.toks) I1 _ (turn_str _ z t "str_ascii_iterator" (.inl rfl)) ⟨_, Heap.get?_push_size _ rfl, rfl, rfl⟩ q)
theorem good_ev (C : COk T L X) {e : IE} {tg x : Expr} (h : GoodE T Φ X e x) : GoodI T Φ X (.ev e) tg x := by
  intro g I F H st env σ R XP er S q
  refine run_I (pi_any rE) ?_
  refine h.then_ er S q fun g1 I1 H1 st1 y v a1 b1 S1 er1 r1 q1 => ?_
  have K := C.K
  cases y with
  | tup xs =>
    obtain ⟨p, vs, rfl, h1, h2⟩ := r1
    exact .inr (.inl ⟨p, rfl, ⟨vs, by rw [K]; exact S1.ih.tup h1⟩, g1, I1, st1, _, a1, b1, S1, it_tup K h1 h2, q1⟩)
  | lsv xs =>
    obtain ⟨p, vs, rfl, h1, h2⟩ := r1
    exact .inl ⟨p, rfl, ⟨vs, by rw [K]; exact S1.ih.lst h1⟩, g1, I1, st1, _, a1, b1, S1, it_lsv K h1 h2, q1⟩
  | str s =>
    cases r1
    exact .inr (.inr ⟨_, rfl, g1, I1, st1, _, a1, b1, S1, it_str s, q1⟩)
  | ref n =>
    obtain ⟨p, hp, rfl⟩ := r1
    simp only [itemsOf] at q1
    split at q1
    · rename_i xs hs
      obtain ⟨vs, e1, _⟩ := S1.at_ hp hs
      exact .inl ⟨p, rfl, ⟨vs, SqL.of e1⟩, g1, I1, st1, _, a1, b1, S1, it_lst K hp, q1⟩
    · exact q1.elim
  | _ => exact q1.elim
theorem good_rng (TO : TOk T) (C : COk T L X) {a : IE} {tg x : Expr} {p pos : Pos} (h : GoodE T Φ X a x) (hg : Gl X (Str.ofString "range")) (hs : noStar [x] = true) : GoodI T Φ X (.rng a) tg (.Call (.Name (Str.ofString "range") p) [x] [] pos) := by
  intro g I F H st env σ R XP er S q
  refine run_I (pi_range1 hg (by rw [C.mg]; exact TO.rng) (pa_cons rE pa_nil (star_cons _ hs)) (star_cons _ hs)) ?_
  refine h.then_ er S q fun g1 I1 H1 st1 y v a1 b1 S1 er1 r1 q1 => ?_
  obtain ⟨n, rfl, h0, h1, q1⟩ := q1
  cases r1
  refine ⟨n, rfl, by omega, by omega, g1, I1, st1, _, a1, b1, S1, ?_, q1⟩
  have := it_rng (T := T) (g := g1) (I := I1) (F := F) 0 n.toNat
  simpa only [Int.zero_add] using this
theorem good_rng2 (TO : TOk T) (C : COk T L X) {a b : IE} {tg x y : Expr} {p pos : Pos} (ha : GoodE T Φ X a x) (hb : GoodE T Φ X b y) (hg : Gl X (Str.ofString "range")) (hs : noStar [x, y] = true) : GoodI T Φ X (.rng2 a b) tg (.Call (.Name (Str.ofString "range") p) [x, y] [] pos) := by
  intro g I F H st env σ R XP er S q
  have e1 := star_cons X.env hs
  have e2 := star_cons X.env (noStar_tail hs)
  refine run_I (pi_range2 hg (by rw [C.mg]; exact TO.rng) (pa_cons rE (pa_cons rE pa_nil e2) e1) (by rw [e1, e2]; rfl) e2) ?_
  refine ha.then_ er S q fun g1 I1 H1 st1 y v a1 b1 S1 er1 r1 q1 => ?_
  refine hb.then_ er1 S1 q1 fun g2 I2 H2 st2 z w a2 b2 S2 er2 r2 q2 => ?_
  obtain ⟨n, m, rfl, rfl, h0, h1, h2, h3, q2⟩ := q2
  cases r1
  cases r2
  exact ⟨n, m, rfl, by omega, g2, I2, st2, _, a1.trans a2, b1.trans b2, S2, it_rng n (m - n).toNat, q2⟩
theorem good_enu (TO : TOk T) (C : COk T L X) {e : IE} {x : Expr} {es : List Expr} {k : Nat} {p pos tpos : Pos} (h : GoodE T Φ X e x) (hg : Gl X (Str.ofString "enumerate")) (hs : noStar [x] = true) : GoodI T Φ X (.enu e) (.Tuple es k tpos) (.Call (.Name (Str.ofString "enumerate") p) [x] [] pos) := by
  intro g I F H st env σ R XP er S q
  refine run_I (pi_enum hg (by rw [C.mg]; exact TO.enu) (pa_cons rE pa_nil (star_cons _ hs)) (star_cons _ hs)) ?_
  refine h.then_ er S q fun g1 I1 H1 st1 y v a1 b1 S1 er1 r1 q1 => ?_
  obtain ⟨n, xs, rfl, hs, q1⟩ := q1
  obtain ⟨p, hp, rfl⟩ := r1
  obtain ⟨vs, e1, _⟩ := S1.at_ hp hs
  exact ⟨p, vs, rfl, SqL.of e1, g1, I1, st1, _, a1, b1, S1, it_enum hp, q1⟩
def isL : MV → Bool
  | .tup _ => false
  | _ => true
theorem sqx_of {X : Cx} {cl : Kl} {g : Mu} {I F H : Hp} {st : Sto} {x : MV} {v : V} {xs : List MV} (S : Sim X.K cl g I F H st) (rx : RepV X.K g I x v) (h : seqOf st x = some xs) : ∃ p vs, v = .ref p ∧ SqX X.K H (isL x) p vs ∧ RepVs X.K g I xs vs := by
  cases x with
  | tup ys => cases h; obtain ⟨p, vs, rfl, h1, h2⟩ := rx; exact ⟨p, vs, rfl, S.ih.tup h1, h2⟩
  | lsv ys => cases h; obtain ⟨p, vs, rfl, h1, h2⟩ := rx; exact ⟨p, vs, rfl, S.ih.lst h1, h2⟩
  | ref a =>
    obtain ⟨p, hp, rfl⟩ := rx
    simp only [seqOf] at h
    split at h
    · rename_i ys hs
      cases h
      obtain ⟨vs, e1, r1⟩ := S.at_ hp hs
      exact ⟨p, vs, rfl, SqL.of e1, r1⟩
    · cases h
  | _ => cases h
theorem it_zipM (KX : X.K = T.K) {g : Mu} {I F : Hp} {p q : Addr} {x y : MV} {xs ys : List MV} (hp : RepV T.K g I x (.ref p)) (hq : RepV T.K g I y (.ref q)) :
    ItRel T g I F (ItzM X.K (isL x) (isL y) p q) ((xs.zip ys).map fun z => .tup [z.1, z.2]) fun st' => seqOf st' x = some xs ∧ seqOf st' y = some ys := by
  intro g' I' F' H' st' i hg hI hF S hs
  obtain ⟨p1, vs, e1, h', r⟩ := sqx_of (X := X) (by rw [KX]; exact S) (by rw [KX]; exact hp.mono hg hI) hs.1
  obtain ⟨q1, ws, e2, h2, r2⟩ := sqx_of (X := X) (by rw [KX]; exact S) (by rw [KX]; exact hq.mono hg hI) hs.2
  cases e1; cases e2
  rw [KX] at r r2
  refine ⟨fun hl => ⟨vs, ws, h', h2, ?_⟩, fun z hz => ?_⟩
  · rw [List.length_map, List.length_zip] at hl
    rw [r.len, r2.len]
    omega
  · rw [List.getElem?_map] at hz
    cases hz' : (xs.zip ys)[i]? with
    | none => rw [hz'] at hz; cases hz
    | some w =>
      rw [hz'] at hz
      cases hz
      obtain ⟨z1, z2⟩ := w
      obtain ⟨h3, h4⟩ := List.getElem?_zip_eq_some.mp hz'
      obtain ⟨v, hv, rv⟩ := r.get h3
      obtain ⟨w, hw, rw_⟩ := r2.get h4
      refine ⟨⟨vs, ws, v, w, h', h2, hv, hw⟩, fun u H'' y => ?_⟩
      obtain ⟨t, v', w', rfl, hn, rfl, y1, y2⟩ := y
      have a1 := y1 vs h'
      have a2 := y2 ws h2
      rw [hv] at a1; rw [hw] at a2
      cases a1; cases a2
      exact ⟨_, pair_ok S hn rv rw_⟩
theorem good_zip (TO : TOk T) (C : COk T L X) {a b : IE} {x y : Expr} {es : List Expr} {k : Nat} {p pos tpos : Pos} (ha : GoodE T Φ X a x) (hb : GoodE T Φ X b y) (hg : Gl X (Str.ofString "zip")) (hs : noStar [x, y] = true) : GoodI T Φ X (.zip a b) (.Tuple es k tpos) (.Call (.Name (Str.ofString "zip") p) [x, y] [] pos) := by
  intro g I F H st env σ R XP er S q
  have e1 := star_cons X.env hs
  have e2 := star_cons X.env (noStar_tail hs)
  refine run_I (pi_zipM hg (by rw [C.mg]; exact TO.zip) (pa_cons rE (pa_cons rE pa_nil e2) e1) e1 (star_free _ _ (noStar_tail hs))) ?_
  refine ha.then_ er S q fun g1 I1 H1 st1 y v a1 b1 S1 er1 r1 q1 => ?_
  refine hb.then_ er1 S1 q1 fun g2 I2 H2 st2 z w a2 b2 S2 er2 r2 q2 => ?_
  obtain ⟨xs, ys, h1, h2, q2⟩ := q2
  obtain ⟨p, vs, rfl, h3, r3⟩ := sqx_of (X := X) (by rw [C.K]; exact S2) (by rw [C.K]; exact r1.mono a2 b2) h1
  obtain ⟨q, ws, rfl, h4, r4⟩ := sqx_of (X := X) (by rw [C.K]; exact S2) (by rw [C.K]; exact r2) h2
  exact ⟨_, _, p, q, vs, ws, rfl, h3, h4, g2, I2, st2, _, a1.trans a2, b1.trans b2, S2, it_zipM C.K (r1.mono a2 b2) r2, q2⟩
end
end Snd
-- SX
set_option maxHeartbeats 2000000
namespace Snd
open PySem PySem.Spec PySem.Calls PyProof.Rows L2 Mi LiI PySem.W

theorem zip_no_len : typeLookup (.type "zip") "__len__" = pure none := by rw [typeLookup_type, builtinLookup_eq_fast]; kernel_rfl
theorem zip_no_hint : typeLookup (.type "zip") "__length_hint__" = pure none := by rw [typeLookup_type, builtinLookup_eq_fast]; kernel_rfl

/-! ### list(zip(a, b)), a and b lists -/
/-- what lies apart from the new list -/
structure ZlOff (S z TI TO i1 i2 l1 l2 : Addr) : Prop where
  z : z ≠ S
  TI : TI ≠ S
  TO : TO ≠ S
  i1 : i1 ≠ S
  i2 : i2 ≠ S
  l1 : l1 ≠ S
  l2 : l2 ≠ S
/-- the zip amid its run -/
def ZlSt (h : Heap) (z TI TO i1 i2 l1 l2 S : Addr) (xs ys : Array Value) (i : Nat) : Prop :=
  PySem.IsPair h TI (.ref i1) (.ref i2) ∧ h.IsListIter i1 l1 i ∧ h.IsListIter i2 l2 i ∧ h.IsList l1 xs ∧ h.IsList l2 ys ∧
    ((IsZip h z TI TO .none ∧ ∃ a b, PySem.IsPair h TO a b) ∨ ∃ T f oT, PySem.IsZipHeld h z TI TO T f ∧ h.get? T = some oT ∧ T ≠ z ∧ T ≠ i1 ∧ T ≠ i2 ∧ T ≠ S)
theorem ZlSt.keep {h h' : Heap} {z TI TO i1 i2 l1 l2 S : Addr} {xs ys : Array Value} {i : Nat} (O : ZlOff S z TI TO i1 i2 l1 l2) (x : ZlSt h z TI TO i1 i2 l1 l2 S xs ys i) (hk : ∀ b o, b ≠ S → h.get? b = some o → h'.get? b = some o) : ZlSt h' z TI TO i1 i2 l1 l2 S xs ys i := by
  obtain ⟨hTI, h1, h2, hl1, hl2, hz⟩ := x
  refine ⟨hk _ _ O.TI hTI, h1.at fun o e => hk _ o O.i1 e, h2.at fun o e => hk _ o O.i2 e, hl1.at fun o e => hk _ o O.l1 e, hl2.at fun o e => hk _ o O.l2 e, ?_⟩
  rcases hz with ⟨hz, a, b, hTO⟩ | ⟨T, f, oT, hz, hT, r1, r2, r3, r4⟩
  · exact .inl ⟨hk _ _ O.z hz, a, b, hk _ _ O.TO hTO⟩
  · exact .inr ⟨T, f, oT, hk _ _ O.z hz, hk _ _ r4 hT, r1, r2, r3, r4⟩
structure ZlG (xs ys : Array Value) (lo : Addr) (h : Heap) (as : List Addr) : Prop where
  rise : as.Pairwise (· < ·)
  above : ∀ a ∈ as, lo < a
  pairs : ∀ (j : Nat) (a : Addr), as[j]? = some a → ∃ x y, xs[j]? = some x ∧ ys[j]? = some y ∧ PySem.IsPair h a x y
theorem ZlG.there {xs ys : Array Value} {lo : Addr} {h : Heap} {as : List Addr} (g : ZlG xs ys lo h as) {a : Addr} (ha : a ∈ as) : a < h.objs.size := by
  obtain ⟨j, hj⟩ := List.mem_iff_getElem?.mp ha
  obtain ⟨_, _, _, _, e⟩ := g.pairs j a hj
  exact Heap.lt_size e
section
variable {prog : Program} {w : World} {A : Around} {E : Value → Shared → Prop} {s : Shared} {z TI TO i1 i2 l1 l2 S : Addr} {xs ys : Array Value}
theorem zl_item (D : ZipApart z TI TO i1 i2 l1 l2) {i : Nat} {x y : Value} {Q : Option Value → Shared → Prop} (st : ZlSt s.heap z TI TO i1 i2 l1 l2 S xs ys i) (hS : S < s.heap.objs.size) (ex : xs[i]? = some x) (ey : ys[i]? = some y)
    (hQ : ∀ h', ZlSt h' z TI TO i1 i2 l1 l2 S xs ys (i + 1) → PySem.IsPair h' s.heap.objs.size x y → h'.objs.size = s.heap.objs.size + 1 →
      (∀ c o, c ≠ z → c ≠ TO → c ≠ i1 → c ≠ i2 → s.heap.get? c = some o → h'.get? c = some o) → Q (some (.ref s.heap.objs.size)) { s with heap := h' }) : wpAny (model prog w) A (pyNext (.ref z)) Q E s := by
  obtain ⟨hTI, h1, h2, hl1, hl2, hz⟩ := st
  have lt : ∀ {c o}, s.heap.get? c = some o → s.heap.objs.size ≠ c := fun e => Nat.ne_of_gt (Heap.lt_size e)
  have n1 : s.heap.objs.size ≠ i1 := let ⟨_, e, _⟩ := h1; lt e
  have n2 : s.heap.objs.size ≠ i2 := let ⟨_, e, _⟩ := h2; lt e
  rcases hz with ⟨hz, a, b, hTO⟩ | ⟨T, f, oT, hz, hT, r1, r2, r3, r4⟩
  · refine wpAny_pyNext_zip_item D hz hTI hTO h1 h2 hl1 hl2 ex ey fun h' a1 a2 a3 a4 a5 a6 hk => ?_
    exact hQ h' ⟨hk _ _ D.TIz D.TITO D.TIi1 D.TIi2 hTI, a3, a4, hl1.at fun o e => hk _ o D.l1z D.l1TO D.l1i1 D.l1i2 e, hl2.at fun o e => hk _ o D.l2z D.l2TO D.l2i1 D.l2i2 e,
        .inr ⟨s.heap.objs.size, false, _, a1, a5, lt hz, n1, n2, Nat.ne_of_gt hS⟩⟩ a5 a6 hk
  · refine PySem.wpAny_pyNext_zip_item_held D hz hT hTI h1 h2 hl1 hl2 ex ey fun h' a1 a3 a4 a5 a6 hk => ?_
    exact hQ h' ⟨hk _ _ D.TIz D.TIi1 D.TIi2 hTI, a3, a4, hl1.at fun o e => hk _ o D.l1z D.l1i1 D.l1i2 e, hl2.at fun o e => hk _ o D.l2z D.l2i1 D.l2i2 e,
        .inr ⟨T, true, oT, a1, hk _ _ r1 r2 r3 hT, r1, r2, r3, r4⟩⟩ a5 a6 fun c o c1 _ c3 c4 e => hk c o c1 c3 c4 e
theorem zl_done (D : ZipApart z TI TO i1 i2 l1 l2) (hh : A.handled = none) {i : Nat} {Q : Option Value → Shared → Prop} (st : ZlSt s.heap z TI TO i1 i2 l1 l2 S xs ys i) (hend : xs[i]? = none ∨ ys[i]? = none)
    (hQ : ∀ h', (∀ c o, c ≠ z → c ≠ TO → c ≠ i1 → c ≠ i2 → s.heap.get? c = some o → h'.get? c = some o) → Q none { s with heap := h' }) : wpAny (model prog w) A (pyNext (.ref z)) Q E s := by
  obtain ⟨hTI, h1, h2, hl1, hl2, hz⟩ := st
  rcases hz with ⟨hz, a, b, hTO⟩ | ⟨T, f, oT, hz, hT, r1, r2, r3, r4⟩
  · exact wpAny_pyNext_zip_end hh D hz hTI hTO h1 h2 hl1 hl2 hend hQ
  · exact PySem.wpAny_pyNext_zip_end_held hh D hz hT hTI h1 h2 hl1 hl2 hend fun h' hk => hQ h' fun c o c1 _ c3 c4 e => hk c o c1 c3 c4 e
end
section
variable {prog : Program} {w : World} {A : Around} {s : Shared} {R : Result → Shared → Prop} {z TI TO i1 i2 l1 l2 S : Addr} {xs ys : Array Value}
theorem zl_loop (D : ZipApart z TI TO i1 i2 l1 l2) (O : ZlOff S z TI TO i1 i2 l1 l2) (hh : A.handled = none) (lo : z < S ∧ TO < S ∧ i1 < S ∧ i2 < S) (hn : min xs.size ys.size ≤ sizeLine) (res : Value) {h₁ : Heap}
    (hR : ∀ h' tk acc c as, (∀ b o, b ≠ S → b ≠ z → b ≠ TO → b ≠ i1 → b ≠ i2 → h₁.get? b = some o → h'.get? b = some o) → h'.get? S = some { cls := .type "list", dict := none, data := .seq acc c, slots := #[] } → as.length = min xs.size ys.size → ZlG xs ys S h' as →
      acc.toList = as.map Value.ref → R (.ok (.ret res)) { s with heap := h', toks := tk }) :
    ∀ (k i : Nat) (h : Heap) (tk c : Nat) (acc : Array Value) (as : List Addr), min xs.size ys.size - i = k → i ≤ min xs.size ys.size → ZlSt h z TI TO i1 i2 l1 l2 S xs ys i → (∀ b o, b ≠ S → b ≠ z → b ≠ TO → b ≠ i1 → b ≠ i2 → h₁.get? b = some o → h.get? b = some o) →
      h.get? S = some { cls := .type "list", dict := none, data := .seq acc c, slots := #[] } → acc.toList = as.map Value.ref → as.length = i → ZlG xs ys S h as →
      codeAny (model prog w) A (.builtin "list.extend.loop" ⟨[.ref S, .ref z, res], []⟩) R { s with heap := h, toks := tk } := by
  have above : ∀ {b : Addr}, S < b → b ≠ S ∧ b ≠ z ∧ b ≠ TO ∧ b ≠ i1 ∧ b ≠ i2 := fun {b} hb => by
    obtain ⟨q1, q2, q3, q4⟩ := lo
    exact ⟨Nat.ne_of_gt hb, Nat.ne_of_gt (Nat.lt_trans q1 hb), Nat.ne_of_gt (Nat.lt_trans q2 hb), Nat.ne_of_gt (Nat.lt_trans q3 hb), Nat.ne_of_gt (Nat.lt_trans q4 hb)⟩
  intro k
  induction k with
  | zero =>
    intro i h tk c acc as hk hi hst hkeep hS hacc hal hG
    have hin : i = min xs.size ys.size := by omega
    have hend : xs[i]? = none ∨ ys[i]? = none := by
      rcases Nat.le_total xs.size ys.size with q | q
      · exact .inl (Array.getElem?_eq_none (by rw [hin, Nat.min_eq_left q]; exact Nat.le_refl _))
      · exact .inr (Array.getElem?_eq_none (by rw [hin, Nat.min_eq_right q]; exact Nat.le_refl _))
    refine codeAny_builtin PySem.F.entry_extend_loop ?_
    rw [Around.under_plainId PySem.F.plain_extend_loop _]
    show wpAny _ A.in1 (pyNext (.ref z) >>= _) _ _ _
    refine wpAny_bind (zl_done (s := { s with heap := h, toks := tk }) (A := A.in1) D hh hst hend fun h' he => ?_)
    refine wpAny_pure (hR h' tk acc c as (fun b o q0 q1 q2 q3 q4 e => he b o q1 q2 q3 q4 (hkeep b o q0 q1 q2 q3 q4 e)) (he S _ (Ne.symm O.z) (Ne.symm O.TO) (Ne.symm O.i1) (Ne.symm O.i2) hS) (by omega) ⟨hG.rise, hG.above, fun j a hj => ?_⟩ hacc)
    obtain ⟨x, y, e1, e2, e3⟩ := hG.pairs j a hj
    obtain ⟨_, q1, q2, q3, q4⟩ := above (hG.above a (List.mem_of_getElem? hj))
    exact ⟨x, y, e1, e2, he a _ q1 q2 q3 q4 e3⟩
  | succ k ih =>
    intro i h tk c acc as hk hi hst hkeep hS hacc hal hG
    have hlt : i < min xs.size ys.size := by omega
    have hix : i < xs.size := Nat.lt_of_lt_of_le hlt (Nat.min_le_left ..)
    have hiy : i < ys.size := Nat.lt_of_lt_of_le hlt (Nat.min_le_right ..)
    have ex := Array.getElem?_eq_getElem hix
    have ey := Array.getElem?_eq_getElem hiy
    have hsz : acc.size = i := by rw [← Array.length_toList, hacc, List.length_map, hal]
    refine codeAny_builtin PySem.F.entry_extend_loop ?_
    rw [Around.under_plainId PySem.F.plain_extend_loop _]
    show wpAny _ A.in1 (pyNext (.ref z) >>= _) _ _ _
    refine wpAny_bind (zl_item (s := { s with heap := h, toks := tk }) (S := S) D hst (Heap.lt_size hS) ex ey fun h' hst' ht hz hkp => ?_)
    dsimp only at ht hz hkp ⊢
    have hS' := hkp S _ (Ne.symm O.z) (Ne.symm O.TO) (Ne.symm O.i1) (Ne.symm O.i2) hS
    have up : ∀ b o, b ≠ S → h'.get? b = some o → (h'.update S (Obj.mapSeq (·.push (Value.ref h.objs.size)))).get? b = some o := fun b o hb e => (Heap.get?_update_other _ _ (Ne.symm hb)).trans e
    have hSl : S < h.objs.size := Heap.lt_size hS
    show wpAny _ A.in1 (updateSeq S (·.push (Value.ref h.objs.size)) >>= _) _ _ _
    refine wpAny_bind ?_
    refine wpAny_updateSeq hS' rfl (wpAny_pure ⟨plainId_quiet PySem.F.plain_extend_loop _, ih (i + 1) _ tk _ (acc.push (Value.ref h.objs.size)) (as ++ [h.objs.size]) (by omega) hlt (hst'.keep O up)
      (fun b o q0 q1 q2 q3 q4 e => up b o q0 (hkp b o q1 q2 q3 q4 (hkeep b o q0 q1 q2 q3 q4 e))) (Heap.get?_update_self _ hS' rfl) (by rw [Array.toList_push, hacc, List.map_append]; rfl) (by rw [List.length_append, hal]; rfl) ⟨?_, ?_, ?_⟩⟩) (by rw [hsz]; omega) (by show (acc.push (Value.ref h.objs.size)).size ≤ sizeLine + 1; rw [Array.size_push, hsz]; omega)
    · refine List.pairwise_append.mpr ⟨hG.rise, List.pairwise_singleton _ _, fun a ha b hb => ?_⟩
      rw [List.mem_singleton.mp hb]
      exact hG.there ha
    · intro a ha
      rcases List.mem_append.mp ha with ha | ha
      · exact hG.above a ha
      · rw [List.mem_singleton.mp ha]; exact hSl
    · intro j b hj
      rcases Nat.lt_trichotomy j as.length with q | q | q
      · rw [List.getElem?_append_left q] at hj
        obtain ⟨x, y, e1, e2, e3⟩ := hG.pairs j b hj
        have hb := hG.above b (List.mem_of_getElem? hj)
        obtain ⟨q0, q1, q2, q3, q4⟩ := above hb
        exact ⟨x, y, e1, e2, up b _ q0 (hkp b _ q1 q2 q3 q4 e3)⟩
      · subst q
        have hb : h.objs.size = b := by simpa using hj
        subst hb
        exact ⟨_, _, by rw [hal]; exact ex, by rw [hal]; exact ey, up _ _ (Nat.ne_of_gt hSl) ht⟩
      · have hnone : (as ++ [h.objs.size])[j]? = none := List.getElem?_eq_none (by rw [List.length_append, List.length_singleton]; omega)
        rw [hnone] at hj; cases hj
end
section
variable {prog : Program} {w : World} {A : Around} {E : Value → Shared → Prop} {s : Shared} {z TI TO i1 i2 l1 l2 : Addr} {xs ys : Array Value}
theorem zl_call {Q : Value → Shared → Prop} (D : ZipApart z TI TO i1 i2 l1 l2) (hh : A.handled = none) (hz : IsZip s.heap z TI TO .none) (hTI : PySem.IsPair s.heap TI (.ref i1) (.ref i2)) (hTO : ∃ a b, PySem.IsPair s.heap TO a b)
    (h1 : s.heap.IsListIter i1 l1 0) (h2 : s.heap.IsListIter i2 l2 0) (hl1 : s.heap.IsList l1 xs) (hl2 : s.heap.IsList l2 ys) (hn : min xs.size ys.size ≤ sizeLine)
    (hQ : ∀ h' tk acc c as, (∀ b o, b ≠ z → b ≠ TO → b ≠ i1 → b ≠ i2 → s.heap.get? b = some o → h'.get? b = some o) → h'.get? s.heap.objs.size = some { cls := .type "list", dict := none, data := .seq acc c, slots := #[] } → as.length = min xs.size ys.size → ZlG xs ys s.heap.objs.size h' as →
      acc.toList = as.map Value.ref → Q (.ref s.heap.objs.size) { s with heap := h', toks := tk }) :
    wpAny (model prog w) A (call (.type "list") [.ref z]) Q E s := by
  obtain ⟨ta, tb, hTO⟩ := hTO
  have lz := Heap.lt_size hz
  have lTI := Heap.lt_size hTI
  have lTO := Heap.lt_size hTO
  have li1 : i1 < s.heap.objs.size := let ⟨_, e, _⟩ := h1; Heap.lt_size e
  have li2 : i2 < s.heap.objs.size := let ⟨_, e, _⟩ := h2; Heap.lt_size e
  have ll1 : l1 < s.heap.objs.size := let ⟨_, e, _⟩ := hl1; Heap.lt_size e
  have ll2 : l2 < s.heap.objs.size := let ⟨_, e, _⟩ := hl2; Heap.lt_size e
  have O : ZlOff s.heap.objs.size z TI TO i1 i2 l1 l2 := ⟨Nat.ne_of_lt lz, Nat.ne_of_lt lTI, Nat.ne_of_lt lTO, Nat.ne_of_lt li1, Nat.ne_of_lt li2, Nat.ne_of_lt ll1, Nat.ne_of_lt ll2⟩
  refine callType_codes (Q₁ := fun obj s₁ => obj = .ref s.heap.objs.size ∧ s₁ = { s with heap := s.heap.push { cls := .type "list", data := .seq #[] } }) PySem.F.called_list (PySem.F.typeCall_list_1 _) PySem.F.entry_list_init
    (code_list_new _ ⟨rfl, rfl⟩) fun obj s₁ h₁ => ?_
  obtain ⟨rfl, rfl⟩ := h₁
  have hS : (s.heap.push { cls := .type "list", data := .seq #[] }).get? s.heap.objs.size = some { cls := .type "list", data := .seq #[] } := Heap.get?_push_size _ rfl
  refine ⟨⟨_, hS, rfl⟩, PySem.F.args_list_init_2 _ _, ?_⟩
  generalize hSe : s.heap.objs.size = S at *
  show wpAny _ A.in1.in1 (do let old ← Builtin.List.listItems (.ref S); Builtin.List.listUpdate (.ref S) (fun _ => #[]); letGo old.toList.reverse; Builtin.List.listExtendWith (.ref S) (.ref z) .none) _ _ _
  refine wpAny_bind ?_
  unfold Builtin.List.listItems
  refine wpAny_bind (wpAny_seqItems hS rfl (wpAny_pure ?_))
  show wpAny _ A.in1.in1 (updateSeq S (fun _ => #[]) >>= fun _ => letGo (#[] : Array Value).toList.reverse >>= fun _ => Builtin.List.listExtendWith (.ref S) (.ref z) .none) _ _ _
  refine wpAny_bind (wpAny_updateSeq hS rfl ?_)
  have hS2 := Heap.get?_update_self (Obj.mapSeq (fun _ => (#[] : Array Value))) hS rfl
  refine wpAny_bind (wpAny_letGo ?_)
  unfold Builtin.List.listExtendWith
  have up : ∀ (h : Heap) (f : Obj → Obj), (∀ b o, b ≠ S → s.heap.get? b = some o → h.get? b = some o) → ∀ b o, b ≠ S → s.heap.get? b = some o → (h.update S f).get? b = some o := fun h f q b o hb e =>
    (Heap.get?_update_other _ _ (Ne.symm hb)).trans (q b o hb e)
  have k1 : ∀ b o, b ≠ S → s.heap.get? b = some o → (s.heap.push { cls := .type "list", data := .seq #[] }).get? b = some o := fun b o _ e => Heap.get?_push_of_some _ e
  have k2 := up _ (Obj.mapSeq (fun _ => (#[] : Array Value))) k1
  have zty : ∀ {h : Heap} {tk : Nat}, (∀ b o, b ≠ S → s.heap.get? b = some o → h.get? b = some o) → Shared.TypeIs { s with heap := h, toks := tk } (.ref z) "zip" := fun {h tk} q => ⟨_, q _ _ O.z hz, rfl⟩
  refine wpAny_bind (wpAny_typeOf (zty k2) ?_)
  have e1 : Builtin.List.listSameRef (.ref S) (.ref z) = false := by simp [Builtin.List.listSameRef, Ne.symm O.z]
  have e2 : (Value.type "zip" == Value.type "list") = false := by decide
  have e3 : (Value.type "zip" == Value.type "tuple") = false := by decide
  simp only [e1, e2, e3, Bool.or_false, Bool.false_eq_true, if_false]
  refine wpAny_bind (wpAny_pyIter_zip (k2 _ _ O.z hz) ?_)
  refine wpAny_bind (wpAny_holding ?_)
  unfold Builtin.List.listLengthHint
  refine wpAny_bind (wpAny_specialOf (zty k2) zip_no_len ?_)
  show wpAny _ A.in1.in1 (specialOf (Value.ref z) (Str.ofString "__length_hint__") >>= _) _ _ _
  refine wpAny_bind (wpAny_specialOf (zty k2) zip_no_hint ?_)
  refine wpAny_pure ?_
  show wpAny _ A.in1.in1 (rule "list.extend.makes-room" >>= fun _ => Builtin.List.listTouch (.ref S) >>= fun _ =>
    again (.builtin "list.extend.loop" ⟨[.ref S, .ref z, .none], []⟩)) _ _ _
  refine wpAny_bind (wpAny_rule ?_)
  refine wpAny_bind ?_
  show wpAny _ A.in1.in1 (updateSeq S (·.push .none) >>= fun _ => updateSeq S (·.pop)) _ _ _
  refine wpAny_bind (wpAny_updateSeq hS2 rfl ?_)
  have hS3 := Heap.get?_update_self (Obj.mapSeq (·.push Value.none)) hS2 rfl
  refine wpAny_updateSeq (hz := by seq_fits) hS3 rfl ?_
  have hS4 := Heap.get?_update_self (Obj.mapSeq (·.pop)) hS3 rfl
  have k4 := up _ (Obj.mapSeq (·.pop)) (up _ (Obj.mapSeq (·.push Value.none)) k2)
  refine wpAny_pure ⟨plainId_quiet PySem.F.plain_extend_loop _, ?_⟩
  refine zl_loop (A := A.in1) (s := s) (xs := xs) (ys := ys) (h₁ := s.heap) D O hh ⟨lz, lTO, li1, li2⟩ hn .none (fun h' tk acc c as hk hS' hl hG hacc => ⟨rfl, hQ h' tk acc c as (fun b o q1 q2 q3 q4 e => hk b o (Nat.ne_of_lt (hSe ▸ Heap.lt_size e)) q1 q2 q3 q4 e) hS' hl hG hacc⟩)
    _ 0 _ _ _ #[] [] rfl (Nat.zero_le _) ⟨k4 _ _ O.TI hTI, h1.at fun o e => k4 _ o O.i1 e, h2.at fun o e => k4 _ o O.i2 e, hl1.at fun o e => k4 _ o O.l1 e, hl2.at fun o e => k4 _ o O.l2 e, .inl ⟨k4 _ _ O.z hz, ta, tb, k4 _ _ O.TO hTO⟩⟩ (fun b o q0 _ _ _ _ e => k4 b o q0 e) hS4 rfl rfl ⟨List.Pairwise.nil, (fun _ ha => nomatch ha), (fun j a hj => by simp at hj)⟩
end
/-- pairs tracked at their addresses -/
def putZ : Hp → List Addr → List (V × V) → Hp
  | H, a :: as, p :: r => putZ (upd H a (.tup [p.1, p.2])) as r
  | H, _, _ => H
theorem putZ_off {b : Addr} : ∀ (as : List Addr) (r : List (V × V)) (H : Hp), b ∉ as → putZ H as r b = H b
  | [], _, _, _ => rfl
  | _ :: _, [], _, _ => rfl
  | a :: as, p :: r, H, h => by
    show putZ (upd H a (.tup [p.1, p.2])) as r b = H b
    rw [putZ_off as r _ (fun z => h (List.mem_cons_of_mem _ z)), upd_ne (fun z => h (by rw [z]; exact List.mem_cons_self))]
theorem putZ_at : ∀ (as : List Addr) (r : List (V × V)) (H : Hp), as.length = r.length → as.Nodup → Paired (fun (t : Addr) (p : V × V) => putZ H as r t = some (.tup [p.1, p.2])) as r
  | [], [], _, _, _ => .nil
  | [], _ :: _, _, h, _ => by cases h
  | _ :: _, [], _, h, _ => by cases h
  | a :: as, p :: r, H, h, hn => by
    have hn' := List.nodup_cons.mp hn
    have ih := putZ_at as r (upd H a (.tup [p.1, p.2])) (Nat.succ.inj h) hn'.2
    refine .cons ?_ ih
    show putZ (upd H a (.tup [p.1, p.2])) as r a = some (.tup [p.1, p.2])
    rw [putZ_off as r _ hn'.1, upd_same]
section
variable {X : Cx}
theorem zips_laid {pins : List (Addr × Obj)} {σ : L2.St} {H : Hp} {s : Shared} {h' : Heap} {tk S : Nat} {ks ws : List V} {xs ys : List Value} {acc : Array Value} {c : Nat} {as : List Addr} (I : Inv X pins σ H s) (hz : as.length ≤ sizeLine) (v1 : Vals ks xs) (v2 : Vals ws ys)
    (hk : ∀ b o, s.heap.get? b = some o → h'.get? b = some o) (hge : s.heap.objs.size ≤ S) (hS : h'.get? S = some { cls := .type "list", dict := none, data := .seq acc c, slots := #[] }) (hl : as.length = min xs.length ys.length) (hG : ZlG xs.toArray ys.toArray S h' as) (hacc : acc.toList = as.map Value.ref) :
    ∃ H' : Hp, (∀ b o, H b = some o → H' b = some o) ∧ H S = none ∧ (∀ t ∈ as, H t = none) ∧ S ∉ as ∧ H' S = some (.lst (as.map V.ref)) ∧ Paired (fun (t : Addr) (q : V × V) => H' t = some (.tup [q.1, q.2])) as (ks.zip ws) ∧ Inv X pins σ H' { s with heap := h', toks := tk } := by
  have l1 := vals_len v1
  have l2 := vals_len v2
  have lz : as.length = (ks.zip ws).length := by rw [List.length_zip, hl, l1, l2]
  have hSn : S ∉ as := fun z => Nat.lt_irrefl _ (hG.above _ z)
  have nd : as.Nodup := List.Pairwise.imp (fun {a b} (h : a < b) => Nat.ne_of_lt h) hG.rise
  have new : ∀ t ∈ as, H t = none := fun t ht => I.hok.fresh (Nat.le_trans hge (Nat.le_of_lt (hG.above t ht)))
  have newS : H S = none := I.hok.fresh hge
  have atP := putZ_at as (ks.zip ws) (upd H S (.lst (as.map V.ref))) lz nd
  have off : ∀ b, b ∉ as → b ≠ S → putZ (upd H S (.lst (as.map V.ref))) as (ks.zip ws) b = H b := fun b h1 h2 => by rw [putZ_off as _ _ h1, upd_ne h2]
  have low : ∀ b o, s.heap.get? b = some o → b ∉ as ∧ b ≠ S := fun b o e => by
    have lb : b < S := Nat.lt_of_lt_of_le (Heap.lt_size e) hge
    exact ⟨fun z => absurd (Nat.lt_trans lb (hG.above b z)) (Nat.lt_irrefl _), Nat.ne_of_lt lb⟩
  have kp : ∀ b u, H b = some u → (putZ (upd H S (.lst (as.map V.ref))) as (ks.zip ws)) b = some u := fun b u e => by
    rw [off b (fun z => by rw [new b z] at e; cases e) (fun z => by rw [z, newS] at e; cases e)]
    exact e
  have eS : putZ (upd H S (.lst (as.map V.ref))) as (ks.zip ws) S = some (.lst (as.map V.ref)) := by rw [putZ_off as _ _ hSn, upd_same]
  refine ⟨putZ (upd H S (.lst (as.map V.ref))) as (ks.zip ws), kp, newS, new, hSn, eS, atP, ?_⟩
  refine I.call' (ch := []) rfl ⟨fun b o q _ _ _ => hk b o q, fun b o q _ _ _ => ⟨o.slots, hk b o q⟩, fun b o q n _ => ?_, fun b o q _ => ⟨o, hk b o q⟩, fun b xs q => kp b _ q, fun b o u q => kp b _ q, fun b ps q => ⟨#[], by rw [kp b _ q]; simp⟩⟩ (fun b u q => ?_) I.bare fun b z => by simp at z
  · obtain ⟨z1, z2⟩ := low b o q
    rw [off b z1 z2]
    exact n
  · by_cases hb : b ∈ as
    · obtain ⟨j, pk, f1, f2, f3⟩ := paired_ix atP hb
      rw [f3] at q
      cases q
      obtain ⟨x, y, g1, g2, g3⟩ := hG.pairs j b f1
      have g1 : xs[j]? = some x := by simpa using g1
      have g2 : ys[j]? = some y := by simpa using g2
      rw [List.getElem?_zip_eq_some] at f2
      obtain ⟨u1, e1, r1⟩ := vals_at v1 f2.1
      obtain ⟨u2, e2, r2⟩ := vals_at v2 f2.2
      rw [g1] at e1; cases e1
      rw [g2] at e2; cases e2
      exact ⟨by show 2 ≤ sizeLine; decide, [x, y], .cons r1 (.cons r2 .nil), ⟨_, g3, rfl, _, rfl⟩⟩
    · by_cases hb2 : b = S
      · rw [hb2] at q ⊢
        rw [eS] at q
        cases q
        refine ⟨by rw [List.length_map]; exact hz, acc.toList, c, by rw [hacc]; exact LiI.vals_refs as, ?_⟩
        rw [Array.toArray_toList]
        exact hS
      · rw [off b hb hb2] at q
        exact (I.hok b u q).stay (fun d v _ y => hk d v y) (fun d y => kp d _ y) fun d xs y => kp d _ y
def tListZip (K : PySem.W.Frag) (ta : TA) : TE := fun σ H Q => ta σ H fun vs H1 => ∃ (a b : Addr) (ks ws : List V), vs = [.ref a, .ref b] ∧ SqL K H1 a ks ∧ SqL K H1 b ws ∧
  ∀ (H' : Hp) (p : Addr) (ts : List Addr), (∀ b o, H1 b = some o → H' b = some o) → H1 p = none → (∀ t ∈ ts, H1 t = none) → p ∉ ts → H' p = some (.lst (ts.map V.ref)) → Paired (fun (t : Addr) (q : V × V) => H' t = some (.tup [q.1, q.2])) ts (ks.zip ws) → Q (.ref p) H'
theorem pe_listZip {e e2 : Expr} {ta : TA} {p p2 cpos pos : Pos} (hc : X.calm = true) (ha : PA X [e, e2] ta) (hg : Gl X "list") (hm : X.mg "list" = none) (hv : bootBuiltins "list" = some (.type "list")) (hgz : Gl X (Str.ofString "zip")) (hmz : X.mg (Str.ofString "zip") = none)
    (hsz : starEach [e, e2] X.env = (false, eval e X.env) :: starEach [e2] X.env) (hpl : ((backTo cpos (starEach [e2] X.env)).any fun x => x.1) = false) :
    PE X (.Call (.Name "list" p) [.Call (.Name (Str.ofString "zip") p2) [e, e2] [] cpos] [] pos) (tListZip X.K ta) := by
  have hs : starEach [.Call (.Name (Str.ofString "zip") p2) [e, e2] [] cpos] X.env = (false, eval (.Call (.Name (Str.ofString "zip") p2) [e, e2] [] cpos) X.env) :: starEach [] X.env := rfl
  refine ⟨fun pins s σ H Q I hq => ?_⟩
  refine wpAny_Call_Name_kw (ld_blt I hg hm hv ?_)
  refine PyProof.Rows.callWith_type1 ?_ hs rfl
  rw [hs]
  show wpAny _ _ (spliced ((false, eval (.Call (.Name (Str.ofString "zip") p2) [e, e2] [] cpos) X.env) :: backTo pos (starEach [] X.env))) _ _ s
  refine Calls.spliced_cons ?_
  refine PyProof.Rows.Call_ (ld_blt I hgz hmz PyProof.Rows.boot_zip (PyProof.Rows.callWith_type1 (thn (ha.run cpos pins s σ H _ I hq) fun us s1 x => ?_) hsz hpl) (by decide) (by decide)) rfl
  obtain ⟨vs, H1, I1, r1, a, b, ks, ws, rfl, hx, hy, q⟩ := x
  cases r1 with
  | cons ra rr =>
    cases rr with
    | cons rb rn =>
      cases rn
      cases ra
      cases rb
      obtain ⟨its1, v1, pl1, z1⟩ := I1.list hx
      obtain ⟨its2, v2, pl2, z2⟩ := I1.list hy
      have is1 := pl1.isList
      have is2 := pl2.isList
      refine zip_begins2 (begins_list a its1.toArray) (begins_list b its2.toArray) is1 is2 fun h' y1 y2 y3 o1 o2 sz keep => ?_
      have la : a < s1.heap.objs.size := let ⟨_, e, _⟩ := is1; Heap.lt_size e
      have lb : b < s1.heap.objs.size := let ⟨_, e, _⟩ := is2; Heap.lt_size e
      refine Calls.spliced_nil ?_
      have l1 := vals_len v1
      refine zl_call (s := { heap := h', gens := s1.gens, drawn := s1.drawn, toks := s1.toks, os := s1.os }) (zip_apart s1.heap.objs.size a b la lb) (I1.ok.hd hc) y1 y2 ⟨_, _, y3⟩ ⟨_, o1, rfl, rfl⟩ ⟨_, o2, rfl, rfl⟩ (is1.at fun o e => keep _ _ e) (is2.at fun o e => keep _ _ e)
        (Nat.le_trans (Nat.min_le_left ..) (by rw [List.size_toArray, l1]; exact z1)) fun h2 tk acc c as hk hS hl hG hacc => ?_
      have hk2 : ∀ b o, s1.heap.get? b = some o → h2.get? b = some o := fun b o e => by
        have lt : b < s1.heap.objs.size := Heap.lt_size e
        have n4 : ∀ k : Nat, b ≠ s1.heap.objs.size + k := fun k q => by
          rw [q] at lt
          exact absurd lt (Nat.not_lt.mpr (Nat.le_add_right _ _))
        exact hk b o (n4 4) (n4 3) (n4 0) (n4 1) (keep b o e)
      obtain ⟨H', k1, k2, k3, k4, k5, k6, J⟩ := zips_laid (tk := tk) I1 (by rw [hl]; exact Nat.le_trans (Nat.min_le_left ..) (by rw [List.size_toArray, l1]; exact z1)) v1 v2 hk2 (by show s1.heap.objs.size ≤ h'.objs.size; rw [sz]; exact Nat.le_add_right _ _) hS (by simpa using hl) hG hacc
      exact ⟨.ref _, H', J, rfl, q H' _ as k1 k2 k3 k4 k5 k6⟩
end
section
variable {T : Tab} {Φ : Phi} {L : Nat} {X : Cx}
theorem sql_of {X : Cx} {cl : Kl} {g : Mu} {I F H : Hp} {st : Sto} {x : MV} {v : V} {xs : List MV} (S : Sim X.K cl g I F H st) (r : RepV X.K g I x v) (h : lstOf st x = some xs) : ∃ p vs, v = .ref p ∧ SqL X.K H p vs ∧ RepVs X.K g I xs vs := by
  cases x with
  | lsv ys =>
    simp only [lstOf, Option.some.injEq] at h
    subst h
    obtain ⟨p, vs, rfl, h1, h2⟩ := r
    exact ⟨p, vs, rfl, S.ih.lst h1, h2⟩
  | ref a =>
    simp only [lstOf] at h
    split at h
    · rename_i ys hs
      cases h
      obtain ⟨p, hp, rfl⟩ := r
      obtain ⟨vs, e1, e2⟩ := S.at_ hp hs
      exact ⟨p, vs, rfl, .inl (.inl e1), e2⟩
    · cases h
  | _ => cases h
theorem good_lzip (TO : TOk T) (C : COk T L X) {a b : IE} {x y : Expr} {p1 p2 cpos pos : Pos} (ha : GoodE T Φ X a x) (hb : GoodE T Φ X b y) (hg : Gl X (Str.ofString "list")) (hgz : Gl X (Str.ofString "zip")) (hs : noStar [x, y] = true) :
    GoodE T Φ X (.lzip a b) (.Call (.Name (Str.ofString "list") p1) [.Call (.Name (Str.ofString "zip") p2) [x, y] [] cpos] [] pos) := by
  intro g I F H st env σ Q XP er S q
  have e1 := star_cons X.env hs
  have e2 := star_cons X.env (noStar_tail hs)
  refine run_E (pe_listZip C.nd_calm (pa_cons rE (pa_cons rE pa_nil e2) e1) hg (by rw [C.mg]; exact TO.bn .list) (by show bootBuiltins "list" = some (.type "list"); decide +kernel) hgz (by rw [C.mg]; exact TO.zip) e1 (star_free _ _ (noStar_tail hs))) ?_
  refine ha.then_ er S q fun g0 I0 H0 st0 yv v a0 b0 S0 er0 r0 q0 => ?_
  refine hb.then_ er0 S0 q0 fun g1 I1 H1 st1 zv w a1 b1 S1 er1 r1 q1 => ?_
  obtain ⟨xs, ys, h1, h2, q1⟩ := q1
  obtain ⟨p, vs, rfl, h3, r3⟩ := sql_of (X := X) (by rw [C.K]; exact S1) (by rw [C.K]; exact r0.mono a1 b1) h1
  obtain ⟨p', ws, rfl, h4, r4⟩ := sql_of (X := X) (by rw [C.K]; exact S1) (by rw [C.K]; exact r1) h2
  rw [C.K] at r3 r4
  refine ⟨p, p', vs, ws, rfl, h3, h4, fun H' p ts hk hp ht hpt hl pr => ?_⟩
  obtain ⟨l1, pp⟩ := paired_at pr
  -- all but the list
  let Hz : Hp := fun b => if b = p then none else H' b
  have hk0 : LeH H1 Hz := fun b o e => by
    have : b ≠ p := fun z => by rw [z, hp] at e; cases e
    simp only [Hz, this, if_false]
    exact hk b o e
  have hu : upd Hz p (.lst (ts.map V.ref)) = H' := by
    funext b
    by_cases e : b = p
    · subst e; rw [upd_same, hl]
    · rw [upd_ne e]; simp only [Hz, e, if_false]
  have S2 := S1.ext hk0
  have tat : ∀ b, b ∈ ts → ∃ q : V × V, H' b = some (.tup [q.1, q.2]) := fun b hb => by
    obtain ⟨i, hi, ei⟩ := List.mem_iff_getElem.mp hb
    have hw : i < (vs.zip ws).length := by omega
    exact ⟨_, pp i b (vs.zip ws)[i] (by rw [← ei]; exact List.getElem?_eq_getElem hi) (List.getElem?_eq_getElem hw)⟩
  have S3 := S2.froze (W := fun b => decide (b ∈ ts)) (fun b hb => by
    have hb : b ∈ ts := of_decide_eq_true hb
    have hb1 := ht b hb
    refine ⟨fun a q e z => ?_, ?_, ?_, fun u hu => ?_⟩
    · obtain ⟨o, ho⟩ := S1.tracked e
      rw [z, hb1] at ho; cases ho
    · cases e : F b with
      | none => rfl
      | some o => have := S1.fh _ _ e; rw [hb1] at this; cases this
    · cases e : I1 b with
      | none => rfl
      | some o => have := S1.ih _ _ e; rw [hb1] at this; cases this
    · obtain ⟨q, r⟩ := tat b hb
      have : b ≠ p := fun z => hpt (z ▸ hb)
      simp only [Hz, this, if_false] at hu
      rw [r] at hu; cases hu; rfl)
  have leI : LeH I1 (fun b => if decide (b ∈ ts) = true then Hz b else I1 b) := fun b o e => by
    have : b ∉ ts := fun z => by have := S1.ih _ _ e; rw [ht b z] at this; cases this
    simp only [this, decide_false, Bool.false_eq_true, if_false]
    exact e
  refine QV.from_ ((a0.trans a1).trans (LeM.refl _)) ((b0.trans b1).trans leI) ?_
  rw [← hu]
  have lx := RepVs.len r3
  have ly := RepVs.len r4
  refine new_list S3 (RepVs.of_get (by simp [l1]; omega) fun i x v hx hv => ?_) q1 (by simp [Hz])
  rw [List.getElem?_map] at hx hv
  cases hzz : (xs.zip ys)[i]? with
  | none => rw [hzz] at hx; cases hx
  | some z =>
    rw [hzz] at hx; cases hx
    rw [List.getElem?_zip_eq_some] at hzz
    cases ht' : ts[i]? with
    | none => rw [ht'] at hv; cases hv
    | some t =>
      rw [ht'] at hv; cases hv
      obtain ⟨k', f2, f3⟩ := r3.get hzz.1
      obtain ⟨w', f4, f5⟩ := r4.get hzz.2
      have r := pp i t (k', w') ht' (by rw [List.getElem?_zip_eq_some]; exact ⟨f2, f4⟩)
      have tm : t ∈ ts := List.mem_of_getElem? ht'
      have : t ≠ p := fun z => hpt (z ▸ tm)
      refine ⟨t, [k', w'], rfl, .inl (.inl ?_), _, _, rfl, f3.mono (LeM.refl _) leI, _, _, rfl, f5.mono (LeM.refl _) leI, rfl⟩
      simp only [tm, decide_true, if_true, Hz, this, if_false]
      exact r
end
end Snd
-- S15
namespace Snd
open PySem L2 Mi
section
variable {T : Tab} {Φ : Phi} {L : Nat} {X : Cx}

/-! ### targets -/
def gAll : List Nat → TGs
  | [] => gNil
  | i :: r => gCons (gName i) (gAll r)
def g1 (K : PySem.W.Frag) : Nat ⊕ List Nat → TG
  | .inl i => gName i
  | .inr ns => gTup K ns.length (gAll ns)
def tgS (K : PySem.W.Frag) : ITg → TG
  | .name i => gName i
  | .tup ns => gTup K ns.length (gAll ns)
  | .pr l r => gTup K 2 (gCons (g1 K l) (gCons (g1 K r) gNil))
def tgU (K : PySem.W.Frag) : ITg → TG
  | .name i => gName i
  | .tup ns => gUnl K ns.length (gAll ns)
  | .pr l r => gTup K 2 (gCons (g1 K l) (gCons (g1 K r) gNil))
theorem tgMs_len {N : List Str} {sc : Scope} {fn : Str → Bool} (env : PySem.Env) : ∀ {ns : List Nat} {es : List Expr}, tgMs N sc fn ns es = true → (assignEach es env).length = ns.length ∧ (assignEach es env).findIdx? (·.1) = none
  | [], [], _ => ⟨rfl, rfl⟩
  | i :: r, .Name x p :: es, h => by
    simp only [tgMs, Bool.and_eq_true] at h
    obtain ⟨h1, h2⟩ := tgMs_len env h.2
    refine ⟨?_, ?_⟩
    · show (assignEach es env).length + 1 = r.length + 1
      rw [h1]
    · show ((false, _) :: assignEach es env).findIdx? (·.1) = none
      rw [List.findIdx?_cons]
      simp [h2]
theorem tgMs_pg (nd : X.N.Nodup) : ∀ {ns : List Nat} {es : List Expr}, tgMs X.N X.env.scope X.fn ns es = true → PGs X es (gAll ns)
  | [], [], _ => pgs_nil
  | i :: r, .Name x p :: es, h => by
    simp only [tgMs, Bool.and_eq_true, decide_eq_true_eq] at h
    obtain ⟨⟨h1, h2⟩, h3⟩ := h
    obtain ⟨h4, h5⟩ := isLoc_ok h2
    exact pgs_cons (pg_name nd h1 h4 h5) (tgMs_pg nd h3)
theorem g1_pg (nd : X.N.Nodup) (hc : X.calm = true) {t : Nat ⊕ List Nat} {e : Expr} (h : tg1 X.N X.env.scope X.fn t e = true) : PG X e (g1 X.K t) := by
  cases t with
  | inl i =>
    cases e <;> first | exact absurd h Bool.false_ne_true | skip
    simp only [tg1, Bool.and_eq_true, decide_eq_true_eq] at h
    obtain ⟨h4, h5⟩ := isLoc_ok h.2
    exact pg_name nd h.1 h4 h5
  | inr ns =>
    cases e <;> first | exact absurd h Bool.false_ne_true | skip
    obtain ⟨h1, h2⟩ := tgMs_len X.env h
    exact pg_tup hc (tgMs_pg nd h) h1 h2
theorem tg_pg (nd : X.N.Nodup) (hc : X.calm = true) {tg : ITg} {e : Expr} (h : tgM X.N X.env.scope X.fn tg e = true) : PG X e (tgS X.K tg) := by
  cases tg with
  | name i =>
    cases e <;> first | exact absurd h Bool.false_ne_true | skip
    simp only [tgM, Bool.and_eq_true, decide_eq_true_eq] at h
    obtain ⟨h4, h5⟩ := isLoc_ok h.2
    exact pg_name nd h.1 h4 h5
  | tup ns =>
    cases e <;> first | exact absurd h Bool.false_ne_true | skip
    obtain ⟨h1, h2⟩ := tgMs_len X.env h
    exact pg_tup hc (tgMs_pg nd h) h1 h2
  | pr l r =>
    match e, h with
    | .Tuple [a, b] _ _, h =>
      simp only [tgM, Bool.and_eq_true] at h
      have st : ∀ {c : Expr} {t : Nat ⊕ List Nat}, tg1 X.N X.env.scope X.fn t c = true → ∀ es, assignEach (c :: es) X.env = (false, assign c X.env) :: assignEach es X.env := fun {c t} z es => by
        cases t <;> cases c <;> first | rfl | exact absurd z Bool.false_ne_true
      have e1 := st h.1 [b]
      have e2 := st h.2 []
      exact pg_tup hc (pgs_cons (g1_pg nd hc h.1) (pgs_cons (g1_pg nd hc h.2) pgs_nil (by rw [e2]; rfl)) (by rw [e1]; rfl)) (by rw [e1, e2]; rfl) (by rw [e1, e2]; rfl)
theorem tg_pgU (nd : X.N.Nodup) (hc : X.calm = true) {tg : ITg} {e : Expr} (h : tgM X.N X.env.scope X.fn tg e = true) : PG X e (tgU X.K tg) := by
  cases tg with
  | name i =>
    cases e <;> first | exact absurd h Bool.false_ne_true | skip
    simp only [tgM, Bool.and_eq_true, decide_eq_true_eq] at h
    obtain ⟨h4, h5⟩ := isLoc_ok h.2
    exact pg_name nd h.1 h4 h5
  | tup ns =>
    cases e <;> first | exact absurd h Bool.false_ne_true | skip
    obtain ⟨h1, h2⟩ := tgMs_len X.env h
    exact pg_unl hc (tgMs_pg nd h) h1 h2
  | pr l r =>
    match e, h with
    | .Tuple [a, b] _ _, h =>
      simp only [tgM, Bool.and_eq_true] at h
      have st : ∀ {c : Expr} {t : Nat ⊕ List Nat}, tg1 X.N X.env.scope X.fn t c = true → ∀ es, assignEach (c :: es) X.env = (false, assign c X.env) :: assignEach es X.env := fun {c t} z es => by
        cases t <;> cases c <;> first | rfl | exact absurd z Bool.false_ne_true
      have e1 := st h.1 [b]
      have e2 := st h.2 []
      exact pg_tup hc (pgs_cons (g1_pg nd hc h.1) (pgs_cons (g1_pg nd hc h.2) pgs_nil (by rw [e2]; rfl)) (by rw [e1]; rfl)) (by rw [e1, e2]; rfl) (by rw [e1, e2]; rfl)
theorem PG.or {e : Expr} {t u : TG} (h : PG X e t) (h' : PG X e u) : PG X e (fun v σ H Q => t v σ H Q ∨ u v σ H Q) :=
  ⟨fun pins s σ H v w Q I r q => q.elim (h.run pins s σ H v w Q I r) (h'.run pins s σ H v w Q I r)⟩
def slots : ITg → List Nat
  | .name i => [i]
  | .tup ns => ns
  | .pr l r => (match l with | .inl i => [i] | .inr ns => ns) ++ (match r with | .inl i => [i] | .inr ns => ns)
theorem wipe_get (σ : HS) : ∀ (vs : List Nat) (j : Nat), (wipe σ vs)[j]? = if j ∈ vs then (if j < σ.length then some none else none) else σ[j]?
  | [], j => by simp [wipe]
  | v :: vs, j => by
    unfold wipe
    by_cases e : v = j
    · subst e
      by_cases hl : v < σ.length
      · rw [List.getElem?_set_self (by rw [wipe_length]; exact hl)]
        simp [hl]
      · rw [List.getElem?_eq_none (by rw [List.length_set, wipe_length]; omega)]
        simp [hl]
    · rw [List.getElem?_set_ne e, wipe_get σ vs j]
      have : (j ∈ v :: vs) ↔ j ∈ vs := by simp [Ne.symm e]
      simp [this]
theorem wipe_set {σ : HS} {vs : List Nat} {i : Nat} {o : Option V} (h : i ∈ vs) : wipe (σ.set i o) vs = wipe σ vs := by
  refine List.ext_getElem? fun j => ?_
  rw [wipe_get, wipe_get, List.length_set]
  by_cases e : j ∈ vs
  · simp [e]
  · simp only [e, if_false]
    rw [List.getElem?_set_ne (fun z => e (by rw [← z]; exact h))]
theorem wipe_wipe (σ : HS) (vs : List Nat) : wipe (wipe σ vs) vs = wipe σ vs := by
  refine List.ext_getElem? fun j => ?_
  rw [wipe_get, wipe_get, wipe_length]
  by_cases e : j ∈ vs
  · simp [e]
  · simp [e]
theorem gAll_run {g : Mu} {I H : Hp} {P : HS → Hp → Prop} : ∀ {ns : List Nat} {xs : List MV} {vs : List V} {env : Mi.Env} {σ : HS}, EnvRel T.K g I env σ → RepVs T.K g I xs vs → xs.length = ns.length →
    (∀ σ2, EnvRel T.K g I ((ns.zip xs).foldl (fun s p => s.set p.1 (some p.2)) env) σ2 → (∀ ws, (∀ i ∈ ns, i ∈ ws) → wipe σ2 ws = wipe σ ws) → P σ2 H) → gAll ns vs σ H P
  | [], xs, vs, env, σ, er, r, hl, k => by
    have : xs = [] := List.length_eq_zero_iff.mp hl
    subst this
    have r : vs = [] := r
    exact ⟨r, k σ er fun _ _ => rfl⟩
  | i :: ns, [], vs, env, σ, er, r, hl, k => by simp at hl
  | i :: ns, x :: xs, vs, env, σ, er, r, hl, k => by
    obtain ⟨v, ws, rfl, r1, r2⟩ := r
    refine ⟨v, ws, rfl, ?_⟩
    refine gAll_run (er.set i r1) r2 (by simpa using hl) fun σ2 e2 w2 => k σ2 e2 fun us hu => ?_
    rw [w2 us fun j hj => hu j (List.mem_cons_of_mem _ hj)]
    exact wipe_set (hu i List.mem_cons_self)
def slots1 : Nat ⊕ List Nat → List Nat
  | .inl i => [i]
  | .inr ns => ns
theorem slots_pr (l r : Nat ⊕ List Nat) : slots (.pr l r) = slots1 l ++ slots1 r := by cases l <;> cases r <;> rfl
theorem g1_run (KX : X.K = T.K) {t : Nat ⊕ List Nat} {g : Mu} {I F H : Hp} {st : Sto} {x : MV} {v : V} {env : Mi.Env} {σ : HS} {Q : Mi.Env → Prop} {P : HS → Hp → Prop} (er : EnvRel T.K g I env σ) (S : T.Sim g I F H st) (r : RepV T.K g I x v) (h : set1 t x env Q)
    (k : ∀ σ2 env2, EnvRel T.K g I env2 σ2 → Q env2 → (∀ ws, (∀ i ∈ slots1 t, i ∈ ws) → wipe σ2 ws = wipe σ ws) → P σ2 H) : g1 X.K t v σ H P := by
  cases t with
  | inl i => exact k _ _ (er.set i r) h fun ws hw => wipe_set (hw i List.mem_cons_self)
  | inr ns =>
    obtain ⟨xs, rfl, hl, q⟩ := h
    obtain ⟨p, vs, rfl, h1, h2⟩ := r
    refine ⟨p, vs, rfl, by rw [KX]; exact S.ih.tup h1, by rw [h2.len]; exact hl, ?_⟩
    exact gAll_run er h2 hl fun σ2 e2 w2 => k σ2 _ e2 q w2
theorem pr_run (KX : X.K = T.K) {l rr : Nat ⊕ List Nat} {g : Mu} {I F H : Hp} {st : Sto} {x : MV} {v : V} {env : Mi.Env} {σ : HS} {Q : Mi.Env → Prop} {P : HS → Hp → Prop} (er : EnvRel T.K g I env σ) (S : T.Sim g I F H st) (r : RepV T.K g I x v)
    (h : ∃ x1 y1, x = .tup [x1, y1] ∧ set1 l x1 env fun σ1 => set1 rr y1 σ1 Q)
    (k : ∀ σ2 env2, EnvRel T.K g I env2 σ2 → Q env2 → (∀ ws, (∀ i ∈ slots (.pr l rr), i ∈ ws) → wipe σ2 ws = wipe σ ws) → P σ2 H) : tgS X.K (.pr l rr) v σ H P := by
  obtain ⟨x1, y1, rfl, q⟩ := h
  obtain ⟨p, vs, rfl, h1, h2⟩ := r
  obtain ⟨v1, w1, rfl, r1, h3⟩ := h2
  obtain ⟨v2, w2, rfl, r2, h4⟩ := h3
  have h4 : w2 = [] := h4
  subst h4
  refine ⟨p, _, rfl, by rw [KX]; exact S.ih.tup h1, rfl, ?_⟩
  refine ⟨v1, _, rfl, g1_run KX er S r1 q fun σ1 env1 e1 q1 k1 => ?_⟩
  refine ⟨v2, _, rfl, g1_run KX e1 S r2 q1 fun σ2 env2 e2 q2 k2 => ?_⟩
  refine ⟨rfl, k σ2 env2 e2 q2 fun ws hw => ?_⟩
  rw [slots_pr] at hw
  rw [k2 ws fun i hi => hw i (List.mem_append_right _ hi), k1 ws fun i hi => hw i (List.mem_append_left _ hi)]
theorem tg_run (KX : X.K = T.K) {tg : ITg} {g : Mu} {I F H : Hp} {st : Sto} {x : MV} {v : V} {env : Mi.Env} {σ : HS} {Q : Mi.Env → Prop} {P : HS → Hp → Prop} (er : EnvRel T.K g I env σ) (S : T.Sim g I F H st) (r : RepV T.K g I x v) (h : setTg tg x env Q)
    (k : ∀ σ2 env2, EnvRel T.K g I env2 σ2 → Q env2 → (∀ ws, (∀ i ∈ slots tg, i ∈ ws) → wipe σ2 ws = wipe σ ws) → P σ2 H) : tgS X.K tg v σ H P := by
  cases tg with
  | name i => exact k _ _ (er.set i r) h fun ws hw => wipe_set (hw i List.mem_cons_self)
  | tup ns =>
    obtain ⟨xs, rfl, hl, q⟩ := h
    obtain ⟨p, vs, rfl, h1, h2⟩ := r
    refine ⟨p, vs, rfl, by rw [KX]; exact S.ih.tup h1, by rw [h2.len]; exact hl, ?_⟩
    exact gAll_run er h2 hl fun σ2 e2 w2 => k σ2 _ e2 q w2
  | pr l rr => exact pr_run KX er S r h k
theorem tgS_run (KX : X.K = T.K) {tg : ITg} {g : Mu} {I F H : Hp} {st : Sto} {x : MV} {v : V} {env : Mi.Env} {σ : HS} {Q : Mi.Env → Prop} {P : HS → Hp → Prop} (er : EnvRel T.K g I env σ) (S : T.Sim g I F H st) (r : RepV T.K g I x v) (h : setTgS tg x env st Q)
    (k : ∀ σ2 env2, EnvRel T.K g I env2 σ2 → Q env2 → P σ2 H) : tgS X.K tg v σ H P ∨ tgU X.K tg v σ H P := by
  cases tg with
  | name i => exact .inl (k _ _ (er.set i r) h)
  | tup ns =>
    obtain ⟨xs, hs, hl, q⟩ := h
    obtain ⟨p, vs, rfl, h1, h2⟩ := seqL_of (X := X) (by rw [KX]; exact S) (by rw [KX]; exact r) hs
    rw [KX] at h2
    rcases h1 with h1 | h1
    · exact .inr ⟨p, vs, rfl, h1, by rw [h2.len]; exact hl, gAll_run er h2 hl fun σ2 e2 _ => k σ2 _ e2 q⟩
    · exact .inl ⟨p, vs, rfl, h1, by rw [h2.len]; exact hl, gAll_run er h2 hl fun σ2 e2 _ => k σ2 _ e2 q⟩
  | pr l rr => exact .inl (pr_run KX er S r h fun σ2 env2 e2 q2 _ => k σ2 env2 e2 q2)

/-! ### locked dicts walked -/
theorem RepKV.get {K : PySem.W.Frag} {g : Mu} {I : Hp} {kvs : List (MV × MV)} {ws : List (Key × V)} (r : RepKV K g I kvs ws) : ∀ {i : Nat} {k x : MV}, kvs[i]? = some (k, x) → ∃ k' v, ws[i]? = some (k', v) ∧ RepV K g I k (kV k') ∧ RepV K g I x v := by
  induction r with
  | nil => intro i k x h; simp at h
  | @cons a y a' v r r' h1 h2 _ ih =>
    intro i k x h
    cases i with
    | zero =>
      simp at h
      obtain ⟨rfl, rfl⟩ := h
      refine ⟨a', v, rfl, ?_, h2⟩
      cases a <;> simp [keyV] at h1 <;> subst h1 <;> rfl
    | succ i =>
      simp only [List.getElem?_cons_succ] at h ⊢
      exact ih h
theorem locked_at {g' : Mu} {I' F' H' : Hp} {st' : Sto} {p : Addr} {a : Nat} {kvs : List (MV × MV)} {od : Obj} {ws : List (Key × V)} {F : Hp} (S : T.Sim g' I' F' H' st') (hp : g' a = some p) (hF : LeH (upd F p (.frz od (.dK ws))) F') (hs : st'[a]? = some (.dic true kvs)) :
    H' p = some (.frz od (.dK ws)) ∧ RepKV T.K g' I' kvs ws := by
  obtain ⟨o, ws', h1, h2, h3⟩ := S.at_ hp hs
  have := hF p _ upd_same
  rw [this] at h3
  cases h3
  exact ⟨h1, h2⟩
theorem it_keys {g : Mu} {I F : Hp} {p : Addr} {a : Nat} {kvs : List (MV × MV)} {od : Obj} {ws : List (Key × V)} (hp : g a = some p) : ItRel T g I (upd F p (.frz od (.dK ws))) (Itk p od ws) (keysOf kvs) fun st' => st'[a]? = some (.dic true kvs) := by
  intro g' I' F' H' st' i hg hI hF S hs
  obtain ⟨h1, h2⟩ := locked_at S (hg _ _ hp) hF hs
  have hl := h2.len
  refine ⟨fun h => ⟨h1, by rw [hl]; simpa [keysOf] using h⟩, fun x hx => ?_⟩
  rw [keysOf, List.getElem?_map] at hx
  cases hz : kvs[i]? with
  | none => rw [hz] at hx; cases hx
  | some z =>
    rw [hz] at hx; cases hx
    obtain ⟨k, y⟩ := z
    obtain ⟨k', v, e1, e2, e3⟩ := h2.get hz
    refine ⟨⟨h1, (List.getElem?_eq_some_iff.mp e1).1⟩, fun v' H'' y => ?_⟩
    obtain ⟨rfl, k2, v2, e4, rfl⟩ := y
    rw [e1] at e4; cases e4
    exact ⟨I', LeH.refl _, S, e2⟩
theorem it_vals {g : Mu} {I F : Hp} {p : Addr} {a : Nat} {kvs : List (MV × MV)} {od : Obj} {ws : List (Key × V)} (hp : g a = some p) : ItRel T g I (upd F p (.frz od (.dK ws))) (Itd p od ws) (kvs.map (·.2)) fun st' => st'[a]? = some (.dic true kvs) := by
  intro g' I' F' H' st' i hg hI hF S hs
  obtain ⟨h1, h2⟩ := locked_at S (hg _ _ hp) hF hs
  have hl := h2.len
  refine ⟨fun h => ⟨h1, by rw [hl]; simpa using h⟩, fun x hx => ?_⟩
  rw [List.getElem?_map] at hx
  cases hz : kvs[i]? with
  | none => rw [hz] at hx; cases hx
  | some z =>
    rw [hz] at hx; cases hx
    obtain ⟨k, y⟩ := z
    obtain ⟨k', v, e1, e2, e3⟩ := h2.get hz
    refine ⟨⟨h1, (List.getElem?_eq_some_iff.mp e1).1⟩, fun v' H'' y => ?_⟩
    obtain ⟨rfl, k2, e4⟩ := y
    rw [e1] at e4; cases e4
    exact ⟨I', LeH.refl _, S, e3⟩
theorem it_items {g : Mu} {I F : Hp} {p : Addr} {a : Nat} {kvs : List (MV × MV)} {od : Obj} {ws : List (Key × V)} (hp : g a = some p) : ItRel T g I (upd F p (.frz od (.dK ws))) (Iti p od ws) (kvs.map fun kv => .tup [kv.1, kv.2]) fun st' => st'[a]? = some (.dic true kvs) := by
  intro g' I' F' H' st' i hg hI hF S hs
  obtain ⟨h1, h2⟩ := locked_at S (hg _ _ hp) hF hs
  have hl := h2.len
  refine ⟨fun h => ⟨h1, by rw [hl]; simpa using h⟩, fun x hx => ?_⟩
  rw [List.getElem?_map] at hx
  cases hz : kvs[i]? with
  | none => rw [hz] at hx; cases hx
  | some z =>
    rw [hz] at hx; cases hx
    obtain ⟨k, y⟩ := z
    obtain ⟨k', v, e1, e2, e3⟩ := h2.get hz
    refine ⟨⟨h1, (List.getElem?_eq_some_iff.mp e1).1⟩, fun v' H'' y => ?_⟩
    obtain ⟨t, k2, v2, e4, rfl, hn, rfl⟩ := y
    rw [e1] at e4; cases e4
    exact ⟨_, pair_ok S hn e2 e3⟩
end
end Snd
-- S16
namespace Snd
open PySem L2 Mi
section
variable {T : Tab} {Φ : Phi} {L : Nat} {X : Cx}

theorem drop_cons {α : Type} {xs : List α} {i : Nat} {x : α} {r : List α} (h : xs.drop i = x :: r) : xs[i]? = some x ∧ xs.drop (i + 1) = r ∧ i < xs.length := by
  have hl : i < xs.length := by
    rcases Nat.lt_or_ge i xs.length with z | z
    · exact z
    · rw [List.drop_eq_nil_of_le z] at h; cases h
  rw [List.drop_eq_getElem_cons hl] at h
  cases h
  exact ⟨List.getElem?_eq_getElem hl, rfl, hl⟩

/-! ### comprehensions -/
/-- a list that grows, held -/
def HeldL (T : Tab) (g1 : Mu) (I1 F1 : Hp) (D : Addr) (P : List MV → Sto → Prop) (n : Nat) (H' : Hp) : Prop :=
  ∃ g' I' st' acc accV, LeM g1 g' ∧ LeH I1 I' ∧ T.Sim g' I' (upd F1 D (.lst accV)) H' st' ∧ RepVs T.K g' I' acc accV ∧ acc.length ≤ n ∧ P acc st'
theorem lst_nofrz {vs : List V} : ∀ (o : Obj) (ws : List (Key × V)), HO.lst vs ≠ .frz o (.dK ws) := fun _ _ z => nomatch z
theorem dK_nofrz {vs : List (Key × V)} : ∀ (o : Obj) (ws : List (Key × V)), HO.dK vs ≠ .frz o (.dK ws) := fun _ _ z => nomatch z
theorem EnvRel.wipeR {K : PySem.W.Frag} {g g' : Mu} {I I' : Hp} {env : Mi.Env} {σ : HS} (er : EnvRel K g I env σ) (own : List Nat) (hg : LeM g g') (hI : LeH I I') : EnvRel K g' I' (wipeE env own) (L2.wipe σ own) := (er.mono hg hI).wipe own
theorem LeH.frame {F H : Hp} {D : Addr} {u : HO} (S : LeH F H) (hn : H D = none) : LeH F (upd F D u) := fun q o h => by rw [upd_ne (ne_of_none (S _ _ h) hn)]; exact h
def RunTs (X : Cx) (ifs : List Expr) : TT := fun σ H Q => ∀ (pins : List (Addr × Obj)) (s : Shared), Inv X pins σ H s →
    wpAny (model X.prog X.w) X.A (forIn ifs true fun c r => if r = true then do let ok ← isTrue c X.env (eval c X.env); pure (ForInStep.yield ok) else pure (ForInStep.yield r)) (TP X pins σ Q) X.xe s
theorem run_Ts {X : Cx} {ifs : List Expr} {t : TT} (h : PTs X ifs t) {σ : HS} {H : Hp} {Q : Bool → Hp → Prop} (q : t σ H Q) : RunTs X ifs σ H Q := fun pins s I => h.run pins s σ H Q I q
theorem RunTs.mono {X : Cx} {ifs : List Expr} {σ : HS} {H : Hp} {Q Q' : Bool → Hp → Prop} (h : RunTs X ifs σ H Q) (hq : ∀ v H', Q v H' → Q' v H') : RunTs X ifs σ H Q' := fun pins s I => thn (h pins s I) fun _ _ ⟨H', a, c⟩ => ⟨H', a, hq _ _ c⟩
def QC (T : Tab) (g : Mu) (I F : Hp) (Q : Bool → Sto → Prop) : Bool → Hp → Prop := fun b H' => ∃ g' I' st', LeM g g' ∧ LeH I I' ∧ T.Sim g' I' F H' st' ∧ Q b st'
def GoodC (T : Tab) (Φ : Phi) (X : Cx) (c : IO) (ifs : List Expr) : Prop := ∀ (g : Mu) (I F H : Hp) (st : Sto) (env : Mi.Env) (σ : HS) (Q : Bool → Sto → Prop), EnvRel T.K g I env σ → T.Sim g I F H st → wpO' T.P Φ c env st Q → RunTs X ifs σ H (QC T g I F Q)
theorem good_cnon : GoodC T Φ X .non [] := fun g I F H st env σ Q er S q => run_Ts pts_nil ⟨g, I, st, LeM.refl _, LeH.refl _, S, q⟩
theorem good_csom {ie : IE} {e : Expr} (h : GoodT T Φ X ie e) : GoodC T Φ X (.som ie) [e] := by
  intro g I F H st env σ Q er S q
  refine run_Ts (pts_one rT) ?_
  refine h.then_ (R := fun t _ st1 => Q t st1) (ER.no er) S q fun g1 I1 H1 st1 t x a1 b1 S1 er1 ht q1 => ⟨g1, I1, st1, a1, b1, S1, q1⟩

abbrev Blk (X : Cx) (scope : Scope) (s : Shared) (H : Hp) (C : Addr) (cl : List (Str × Addr)) (fp : List Addr) : Cx := X.blk s H scope (compEnvC scope cl C X.env) fp
def AllE (X : Cx) (scope : Scope) (e : Expr) : TE := fun σ H Q => ∀ (s : Shared) (H0 : Hp) (C : Addr) (cl : List (Str × Addr)) (fp : List Addr), RunE (Blk X scope s H0 C cl fp) e σ H Q
def AllTs (X : Cx) (scope : Scope) (ifs : List Expr) : TT := fun σ H Q => ∀ (s : Shared) (H0 : Hp) (C : Addr) (cl : List (Str × Addr)) (fp : List Addr), RunTs (Blk X scope s H0 C cl fp) ifs σ H Q
theorem rAllE {scope : Scope} {e : Expr} (s : Shared) (H : Hp) (C : Addr) (cl : List (Str × Addr)) (fp : List Addr) : PE (Blk X scope s H C cl fp) e (AllE X scope e) := ⟨fun pins s' σ H' Q I h => h s H C cl fp pins s' I⟩
theorem rAllTs {scope : Scope} {ifs : List Expr} (s : Shared) (H : Hp) (C : Addr) (cl : List (Str × Addr)) (fp : List Addr) : PTs (Blk X scope s H C cl fp) ifs (AllTs X scope ifs) := ⟨fun pins s' σ H' Q I h => h s H C cl fp pins s' I⟩
abbrev lcStep (P : Prog) (Φ : Phi) (elt : IE) (tg : ITg) (cond : IO) (own : List Nat) (env : Mi.Env) (x : MV) (acc : List MV) (st2 : Sto) (k : List MV → Sto → Prop) : Prop :=
  setTg tg x (wipeE env own) fun σ2 => wpO' P Φ cond σ2 st2 (fun t st3 => if t then wpE P Φ elt σ2 st3 (fun y st4 => k (acc ++ [y]) st4) (fun _ _ _ => False) else k acc st3)
theorem lc_loop {scope : Scope} {g1 : Mu} {I1 F1 H1 : Hp} {st1 : Sto} {env : Mi.Env} {σ : HS} {J : L2.It} {xs : List MV} {ok : Sto → Prop} {elt : IE} {tg : ITg} {cond : IO} {own : List Nat} {e : Expr} {ifs : List Expr} {Fin : List MV → Sto → Prop}
    (KX : X.K = T.K) (hJ : ItRel T g1 I1 F1 J xs ok) (hlen : xs.length < big) (S1 : T.Sim g1 I1 F1 H1 st1) (er : EnvRel T.K g1 I1 env σ) (hsl : ∀ i ∈ slots tg, i ∈ own)
    (hc : ∀ s H C cl fp, GoodC T Φ (Blk X scope s H C cl fp) cond ifs) (he : ∀ s H C cl fp, GoodE T Φ (Blk X scope s H C cl fp) elt e)
    (h : loop ok (lcStep T.P Φ elt tg cond own env) xs [] st1 Fin) (D : Addr) (hD : H1 D = none) :
    ∃ W : Nat → Nat → Hp → Prop, (∃ m, W 0 m (upd H1 D (.lst []))) ∧ ∀ i m H, W i m H →
      (J.stop i H ∧ HeldL T g1 I1 F1 D Fin xs.length H) ∨ (J.go i H ∧ ∃ Nx : Hp → Prop, (∀ H', Nx H' → ∃ m', m' < m ∧ W (i + 1) m' H') ∧ ∀ x H', J.yld i H x H' → tgS X.K tg x (wipe σ own) H' fun σ2 H2 => wipe σ2 own = wipe σ own ∧ AllTs X scope ifs σ2 H2 fun b H3 =>
        if b = true then AllE X scope e σ2 H3 fun y H4 => ∃ acc, H4 D = some (.lst acc) ∧ acc.length < sizeLine ∧ Nx (upd H4 D (.lst (acc ++ [y]))) else Nx H3) := by
  have leF : ∀ vs, LeH F1 (upd F1 D (.lst vs)) := fun vs => LeH.frame S1.fh hD
  refine ⟨fun i m H => m = xs.length - i ∧ i ≤ xs.length ∧ HeldL T g1 I1 F1 D (fun acc st' => loop ok (lcStep T.P Φ elt tg cond own env) (xs.drop i) acc st' Fin) i H,
    ⟨xs.length, by simp, Nat.zero_le _, g1, I1, st1, [], [], LeM.refl _, LeH.refl _, S1.frame hD, rfl, Nat.le_refl _, by simpa using h⟩, ?_⟩
  rintro i m H ⟨rfl, hi, g', I', st', acc, accV, hg, hI, S, r, hl, lp⟩
  cases hd : xs.drop i with
  | nil =>
    have hi' : xs.length ≤ i := by
      have := congrArg List.length hd
      simp at this
      omega
    rw [hd] at lp
    obtain ⟨o1, q1⟩ := lp
    exact .inl ⟨(hJ g' I' _ H st' i hg hI (leF _) S o1).1 hi', g', I', st', acc, accV, hg, hI, S, r, by omega, q1⟩
  | cons x rest =>
    obtain ⟨hx, hr, hlt⟩ := drop_cons hd
    rw [hd] at lp
    obtain ⟨o1, q1⟩ := lp
    obtain ⟨j1, j2⟩ := (hJ g' I' _ H st' i hg hI (leF _) S o1).2 x hx
    refine .inr ⟨j1, fun H' => HeldL T g1 I1 F1 D (fun acc st' => loop ok (lcStep T.P Φ elt tg cond own env) rest acc st' Fin) (i + 1) H', fun H' z => ⟨xs.length - (i + 1), by omega, rfl, hlt, by rw [hr]; exact z⟩, fun v H' y => ?_⟩
    obtain ⟨I2, le2, S2, r2⟩ := j2 v H' y
    have hI2 := hI.trans le2
    refine tg_run KX (er.wipeR own hg hI2) S2 r2 q1 fun σ2 env2 e2 q2 w2 => ⟨by rw [w2 own hsl, wipe_wipe], fun s H0 Cc cl fp => ?_⟩
    refine (hc s H0 Cc cl fp g' I2 _ H' st' env2 σ2 _ e2 S2 q2).mono fun b H3 ⟨g3, I3, st3, a3, b3, S3, q3⟩ => ?_
    have racc := r.mono (LeM.refl _) le2
    cases b with
    | false => exact ⟨g3, I3, st3, acc, accV, hg.trans a3, hI2.trans b3, S3, racc.mono a3 b3, by omega, q3⟩
    | true =>
      refine fun s H0 Cc cl fp => (he s H0 Cc cl fp g3 I3 _ H3 st3 env2 σ2 _ _ (ER.no (e2.mono a3 b3)) S3 q3).mono fun y' H4 ⟨g4, I4, ym, st4, a4, b4, S4, r4, q4⟩ => ?_
      have r5 := racc.mono (a3.trans a4) (b3.trans b4)
      refine ⟨accV, S4.fh D _ upd_same, by rw [r5.len, ← big_eq]; omega, g4, I4, st4, acc ++ [ym], accV ++ [y'], (hg.trans a3).trans a4, (hI2.trans b3).trans b4, S4.reframe lst_nofrz, r5.app (RepVs.of_one r4), ?_, q4⟩
      rw [List.length_append, List.length_singleton]
      omega
theorem held_new {g g1 : Mu} {I I1 F H : Hp} {D : Addr} {Q : Post} {n : Nat} (hg : LeM g g1) (hI : LeH I I1) (hF : F D = none) (h : HeldL T g1 I1 F D (fun acc st => Q (.ref st.length) (st ++ [.lst acc])) n H) : T.QV g I F Q (.ref D) H := by
  obtain ⟨g', I', st', acc, accV, a, b, S, r, _, q⟩ := h
  have hH := S.fh D _ upd_same
  have e : upd H D (.lst accV) = H := by
    funext z
    by_cases c : z = D
    · subst c; rw [upd_same, hH]
    · rw [upd_ne c]
  have S2 := S.adopt (u := .lst accV) (mo := .lst acc) lst_nofrz hF ⟨accV, upd_same, r.mono (gAdd_le S.no) (LeH.refl _)⟩
  rw [e] at S2
  exact ⟨_, I', .ref st'.length, _, (hg.trans a).trans (gAdd_le S.no), hI.trans b, S2, ⟨D, by unfold gAdd; rw [if_pos rfl], rfl⟩, q⟩
theorem none_of_le {F H : Hp} {D : Addr} (h : LeH F H) (hn : H D = none) : F D = none := by
  cases e : F D with
  | none => rfl
  | some o => rw [h _ _ e] at hn; cases hn
theorem folded_ok {iter : Expr} (h : (match iter with | .Set _ _ _ => false | _ => true) = true) (env : PySem.Env) (x : Value) : foldedSetIterable iter env x = pure x := by
  cases iter <;> first | rfl | exact absurd h Bool.false_ne_true
def noSet (iter : Expr) : Bool := match iter with | .Set _ _ _ => false | _ => true
/-- over anything that needs no lock -/
theorem good_lc (C : COk T L X) {ii : II} {elt : IE} {tg : ITg} {cond : IO} {own : List (Str × Nat)} {e tgE iter : Expr} {ifs : List Expr} {scope : Scope} {pos : Pos} (hi : GoodI T Φ X ii tgE iter) (ok : BlkOk X.N X.env.scope scope own)
    (ht : tgM X.N (relS scope X.env.scope) (fun x => scope.names.lookup x == some .cell) tg tgE = true) (hsl : ∀ i ∈ slots tg, i ∈ own.map (·.2)) (hc : ∀ s H C cl fp, GoodC T Φ (Blk X scope s H C cl fp) cond ifs)
    (he : ∀ s H C cl fp, GoodE T Φ (Blk X scope s H C cl fp) elt e) (hs : noSet iter = true) : GoodE T Φ X (.lc elt tg ii cond (own.map (·.2))) (.ListComp e [⟨tgE, iter, ifs, 0⟩] scope pos) := by
  intro g I F H st env σ Q XP er S q
  refine run_E (pe_lc (g := tgS X.K tg) (tt := AllTs X scope ifs) (te := AllE X scope e) C.nd_calm C.nd rI ok (fun s H0 Cc cl fp => tg_pg (X := Blk X scope s H0 Cc cl fp) C.nd C.nd_calm ht) (fun s H0 Cc cl fp => rAllTs s H0 Cc cl fp) (fun s H0 Cc cl fp => rAllE s H0 Cc cl fp) (folded_ok hs _)) ?_
  refine (hi g I F H st env σ _ _ er S q).mono fun J H1 ⟨g1, I1, st1, J', a1, b1, S1, hJ, hlen, lp⟩ D hD => ?_
  obtain ⟨W, w0, w1⟩ := lc_loop (X := X) C.K hJ hlen S1 (er.mono a1 b1).rel hsl hc he lp D hD
  refine ⟨W, w0, fun i m H2 w => ?_⟩
  rcases w1 i m H2 w with ⟨z1, z2⟩ | z
  · exact .inl ⟨z1, held_new a1 b1 (none_of_le S1.fh hD) z2⟩
  · exact .inr z
end
end Snd
-- S17
namespace Snd
open PySem L2 Mi
section
variable {T : Tab} {Φ : Phi} {L : Nat} {X : Cx}

/-! ### over a dict: locked while it is walked -/
/-- the three walks of a dict: the items; the walk -/
def dItems (ii : II) (kvs : List (MV × MV)) : List MV := match ii with
  | .keys _ => keysOf kvs
  | .items _ => kvs.map fun kv => .tup [kv.1, kv.2]
  | .vals _ => kvs.map (·.2)
  | _ => []
def dIt (ii : II) (p : Addr) (od : Obj) (ws : List (Key × V)) : L2.It := match ii with
  | .keys _ => Itk p od ws
  | .items _ => Iti p od ws
  | _ => Itd p od ws
def NoFrz (X : Cx) (d : Addr) : Prop := ∀ (o' : Obj) (u' : HO), X.H_0 d ≠ some (.frz o' u')
/-- a value, a dict: locked as soon as it is there -/
def tLk (X : Cx) (te : TE) : TE := fun σ H Q => te σ H fun x H1 => ∃ d kvs, x = .ref d ∧ H1 d = some (.dK kvs) ∧ ∀ od, NoFrz X d → Q x (upd H1 d (.frz od (.dK kvs)))
theorem pe_lk {e : Expr} {te : TE} (he : PE X e te) : PE X e (tLk X te) := by
  refine ⟨fun pins s σ H Q I0 h => thn (he.run pins s σ H _ I0 h) fun v s1 ⟨x, H1, I1, rx, d, kvs, e1, hd, q⟩ => ?_⟩
  obtain ⟨od, I2⟩ := I1.lock hd True.intro
  exact ⟨x, _, I2, rx, q od (I1.nofrz hd True.intro)⟩
/-- .. and open again at the end -/
def UnL (X : Cx) (P : Hp → Prop) (H' : Hp) : Prop := ∃ (d : Addr) (od : Obj) (u : HO), H' d = some (.frz od u) ∧ NoFrz X d ∧ P (upd H' d u)
def tUnE (X : Cx) (t : TE) : TE := fun σ H Q => t σ H fun v H' => UnL X (Q v) H'
def tUnS (X : Cx) (t : TS) : TS := fun D σ H => t ⟨fun σ' H' => UnL X (D.nx σ') H', fun v H' => UnL X (D.rt v) H', fun σ' H' => UnL X (D.bk σ') H', fun σ' H' => UnL X (D.ct σ') H'⟩ σ H
theorem pe_unl {e : Expr} {t : TE} (h : PE X e t) : PE X e (tUnE X t) :=
  ⟨fun pins s σ H Q I0 hw => thn (h.run pins s σ H _ I0 hw) fun v s1 ⟨x, H1, I1, rx, d, od, u, e1, nf, q⟩ => ⟨x, _, I1.unlock e1 nf, rx, q⟩⟩
theorem ps_unl {s : Stmt} {t : TS} (h : PS X s t) : PS X s (tUnS X t) := by
  refine ⟨fun pins s σ H D I0 hw => thn (h.run pins s σ H _ I0 hw) fun f s1 q => ?_⟩
  cases f with
  | next => obtain ⟨σ', H', I1, d, od, u, e1, nf, q⟩ := q; exact ⟨σ', _, I1.unlock e1 nf, q⟩
  | brk => obtain ⟨σ', H', I1, d, od, u, e1, nf, q⟩ := q; exact ⟨σ', _, I1.unlock e1 nf, q⟩
  | cont => obtain ⟨σ', H', I1, d, od, u, e1, nf, q⟩ := q; exact ⟨σ', _, I1.unlock e1 nf, q⟩
  | ret v => obtain ⟨x, σ', H', I1, r, d, od, u, e1, nf, q⟩ := q; exact ⟨x, σ', _, I1.unlock e1 nf, r, q⟩
/-- before: locked -/
theorem locked_sim {g : Mu} {I F H : Hp} {st : Sto} {a : Nat} {p : Addr} {kvs : List (MV × MV)} (S : T.Sim g I F H st) (hp : g a = some p) (hs : st[a]? = some (.dic false kvs)) :
    ∃ ws, H p = some (.dK ws) ∧ F p = none ∧ ∀ od, T.Sim g I (upd F p (.frz od (.dK ws))) (upd H p (.frz od (.dK ws))) (st.set a (.dic true kvs)) := by
  obtain ⟨ws, e1, r1⟩ := S.at_ hp hs
  exact ⟨ws, e1, (S.open_ hp e1 fun _ _ z => nomatch z), fun od => S.lock hp e1 r1 od⟩
/-- the walk of a dict -/
def QD (T : Tab) (X : Cx) (ii : II) (g : Mu) (I F : Hp) (R : Mi.It → Sto → (Sto → (Sto → Prop) → Prop) → Prop) (J : L2.It) (H' : Hp) : Prop :=
  ∃ g1 I1 st1 a p kvs ws od, LeM g g1 ∧ LeH I I1 ∧ g1 a = some p ∧ F p = none ∧ NoFrz X p ∧ T.Sim g1 I1 (upd F p (.frz od (.dK ws))) H' st1 ∧ J = dIt ii p od ws ∧ R ⟨dItems ii kvs, fun st' => st'[a]? = some (.dic true kvs)⟩ st1 fun st3 k => unlock a kvs st3 k
def DictI (T : Tab) (Φ : Phi) (X : Cx) (ii : II) (tg iter : Expr) : Prop := ∀ (g : Mu) (I F H : Hp) (st : Sto) (env : Mi.Env) (σ : HS) (R : Mi.It → Sto → (Sto → (Sto → Prop) → Prop) → Prop) (XP : Xp), ER T X XP g I F env σ → T.Sim g I F H st →
  wpI T.P Φ ii env st R XP → RunI X tg iter σ H (QD T X ii g I F R)
theorem dict_keys {ie : IE} {tg e : Expr} (h : GoodE T Φ X ie e) : DictI T Φ X (.keys ie) tg e := by
  intro g I F H st env σ R XP er S q
  refine run_I (pi_keys (pe_lk rE)) ?_
  refine h.then_ er S q fun g1 I1 H1 st1 x v a1 b1 S1 er1 r1 q1 => ?_
  obtain ⟨a, kvs, rfl, hs, q1⟩ := q1
  obtain ⟨p, hp, rfl⟩ := r1
  obtain ⟨ws, e1, hf, SL⟩ := locked_sim S1 hp hs
  exact ⟨p, ws, rfl, e1, fun od nf => ⟨p, od, rfl, .inl ⟨ws, upd_same, g1, I1, _, a, p, kvs, ws, od, a1, b1, hp, hf, nf, SL od, rfl, q1⟩⟩⟩
theorem dict_items {ie : IE} {es : List Expr} {k : Nat} {e : Expr} {tpos apos cpos : Pos} (h : GoodE T Φ X ie e) (hb : okBase e = true) (hl : (apos.endLine == cpos.line) = true) :
    DictI T Φ X (.items ie) (.Tuple es k tpos) (.Call (.Attribute e (Str.ofString "items") apos) [] [] cpos) := by
  intro g I F H st env σ R XP er S q
  refine run_I (pi_items (pe_lk rE) (base_ok hb) hl) ?_
  refine h.then_ er S q fun g1 I1 H1 st1 x v a1 b1 S1 er1 r1 q1 => ?_
  obtain ⟨a, kvs, rfl, hs, q1⟩ := q1
  obtain ⟨p, hp, rfl⟩ := r1
  obtain ⟨ws, e1, hf, SL⟩ := locked_sim S1 hp hs
  exact ⟨p, ws, rfl, e1, fun od nf => ⟨p, od, ws, rfl, upd_same, g1, I1, _, a, p, kvs, ws, od, a1, b1, hp, hf, nf, SL od, rfl, q1⟩⟩
theorem dict_vals {ie : IE} {tg e : Expr} {apos cpos : Pos} (h : GoodE T Φ X ie e) (hb : okBase e = true) (hl : (apos.endLine == cpos.line) = true) :
    DictI T Φ X (.vals ie) tg (.Call (.Attribute e (Str.ofString "values") apos) [] [] cpos) := by
  intro g I F H st env σ R XP er S q
  refine run_I (pi_values (pe_lk rE) (base_ok hb) hl) ?_
  refine h.then_ er S q fun g1 I1 H1 st1 x v a1 b1 S1 er1 r1 q1 => ?_
  obtain ⟨a, kvs, rfl, hs, q1⟩ := q1
  obtain ⟨p, hp, rfl⟩ := r1
  obtain ⟨ws, e1, hf, SL⟩ := locked_sim S1 hp hs
  exact ⟨p, ws, rfl, e1, fun od nf => ⟨p, od, ws, rfl, upd_same, g1, I1, _, a, p, kvs, ws, od, a1, b1, hp, hf, nf, SL od, rfl, q1⟩⟩
def isDW (ii : II) : Prop := ∃ e, ii = .keys e ∨ ii = .items e ∨ ii = .vals e
theorem dIt_rel {g : Mu} {I F : Hp} {p : Addr} {a : Nat} {kvs : List (MV × MV)} {od : Obj} {ws : List (Key × V)} {ii : II} (hd : isDW ii) (hp : g a = some p) : ItRel T g I (upd F p (.frz od (.dK ws))) (dIt ii p od ws) (dItems ii kvs) fun st' => st'[a]? = some (.dic true kvs) := by
  obtain ⟨e, rfl | rfl | rfl⟩ := hd
  · exact it_keys hp
  · exact it_items hp
  · exact it_vals hp
theorem upd_comm {H : Hp} {p q : Addr} {u v : HO} (h : p ≠ q) : upd (upd H p u) q v = upd (upd H q v) p u := by
  funext z
  by_cases a : z = q
  · subst a
    rw [upd_same, upd_ne (Ne.symm h), upd_same]
  · rw [upd_ne a]
    by_cases b : z = p
    · subst b; rw [upd_same, upd_same]
    · rw [upd_ne b, upd_ne b, upd_ne a]
theorem held_unlock {g1 : Mu} {I1 F H : Hp} {D p : Addr} {a n : Nat} {kvs : List (MV × MV)} {ws : List (Key × V)} {od : Obj} {P : List MV → Sto → Prop} (hg : g1 a = some p) (hf : F p = none) (hD : D ≠ p)
    (h : HeldL T g1 I1 (upd F p (.frz od (.dK ws))) D (fun acc st => unlock a kvs st fun st' => P acc st') n H) : H p = some (.frz od (.dK ws)) ∧ HeldL T g1 I1 F D P n (upd H p (.dK ws)) := by
  obtain ⟨g', I', st', acc, accV, a1, b1, S, r, hl, hs, q⟩ := h
  have e1 := S.fh p (.frz od (.dK ws)) (by rw [upd_ne (Ne.symm hD), upd_same])
  rw [upd_comm (Ne.symm hD)] at S
  have S2 := S.unlock (by rw [upd_ne (Ne.symm hD)]; exact hf) (a1 _ _ hg) hs
  exact ⟨e1, g', I', _, acc, accV, a1, b1, S2, r, hl, q⟩
theorem apart {F H : Hp} {D p : Addr} {u : HO} (S : LeH (upd F p u) H) (hD : H D = none) : D ≠ p ∧ F D = none := by
  have ne : D ≠ p := fun z => by
    subst z
    have := S D u upd_same
    rw [hD] at this
    cases this
  have := none_of_le S hD
  rw [upd_ne ne] at this
  exact ⟨ne, this⟩
theorem lc_goalD (C : COk T L X) {ii : II} {elt : IE} {tg : ITg} {cond : IO} {own : List (Str × Nat)} {e tgE iter : Expr} {ifs : List Expr} {scope : Scope} {g : Mu} {I F H : Hp} {st : Sto} {env : Mi.Env} {σ : HS} {Q : Post} {XP : Xp} (hd : isDW ii) (hi : DictI T Φ X ii tgE iter) (hsl : ∀ i ∈ slots tg, i ∈ own.map (·.2))
    (hc : ∀ s H C cl fp, GoodC T Φ (Blk X scope s H C cl fp) cond ifs) (he : ∀ s H C cl fp, GoodE T Φ (Blk X scope s H C cl fp) elt e) (er : ER T X XP g I F env σ) (S : T.Sim g I F H st) (q : wpE T.P Φ (.lc elt tg ii cond (own.map (·.2))) env st Q XP) :
    tLc (RunI X tgE iter) (tgS X.K tg) (AllTs X scope ifs) (AllE X scope e) (own.map (·.2)) σ H (fun v H' => UnL X (T.QV g I F Q v) H') := by
  refine (hi g I F H st env σ _ _ er S q).mono fun J H1 ⟨g1, I1, st1, a, p, kvs, ws, od, a1, b1, hp, hf, nf, S1, e3, hlen, lp⟩ D hD => ?_
  subst e3
  obtain ⟨ne, hF⟩ := apart S1.fh hD
  obtain ⟨W, w0, w1⟩ := lc_loop (X := X) C.K (dIt_rel hd hp) hlen S1 (er.mono a1 b1).rel hsl hc he lp D hD
  refine ⟨W, w0, fun i m H2 w => ?_⟩
  rcases w1 i m H2 w with ⟨z1, z2⟩ | z
  · obtain ⟨z3, z4⟩ := held_unlock (P := fun acc st6 => Q (.ref st6.length) (st6 ++ [.lst acc])) hp hf ne z2
    exact .inl ⟨z1, p, od, .dK ws, z3, nf, held_new a1 b1 hF z4⟩
  · exact .inr z
theorem good_lcD (C : COk T L X) {ii : II} {elt : IE} {tg : ITg} {cond : IO} {own : List (Str × Nat)} {e tgE iter : Expr} {ifs : List Expr} {scope : Scope} {pos : Pos} (hd : isDW ii) (hi : DictI T Φ X ii tgE iter) (ok : BlkOk X.N X.env.scope scope own)
    (ht : tgM X.N (relS scope X.env.scope) (fun x => scope.names.lookup x == some .cell) tg tgE = true) (hsl : ∀ i ∈ slots tg, i ∈ own.map (·.2)) (hc : ∀ s H C cl fp, GoodC T Φ (Blk X scope s H C cl fp) cond ifs)
    (he : ∀ s H C cl fp, GoodE T Φ (Blk X scope s H C cl fp) elt e) (hs : noSet iter = true) : GoodE T Φ X (.lc elt tg ii cond (own.map (·.2))) (.ListComp e [⟨tgE, iter, ifs, 0⟩] scope pos) := by
  intro g I F H st env σ Q XP er S q
  refine run_E (pe_unl (pe_lc (g := tgS X.K tg) (tt := AllTs X scope ifs) (te := AllE X scope e) C.nd_calm C.nd rI ok (fun s H0 Cc cl fp => tg_pg (X := Blk X scope s H0 Cc cl fp) C.nd C.nd_calm ht) (fun s H0 Cc cl fp => rAllTs s H0 Cc cl fp) (fun s H0 Cc cl fp => rAllE s H0 Cc cl fp) (folded_ok hs _))) ?_
  exact lc_goalD C hd hi hsl hc he er S q

/-! ### dicts made -/
def HeldD (T : Tab) (g1 : Mu) (I1 F1 : Hp) (D : Addr) (P : List (MV × MV) → Sto → Prop) (n : Nat) (H' : Hp) : Prop :=
  ∃ g' I' st' acc accV, LeM g1 g' ∧ LeH I1 I' ∧ T.Sim g' I' (upd F1 D (.dK accV)) H' st' ∧ RepKV T.K g' I' acc accV ∧ acc.length ≤ n ∧ P acc st'
theorem kPut_len (k v : MV) (kvs : List (MV × MV)) : (kPut k v kvs).length ≤ kvs.length + 1 := by
  unfold kPut
  split <;> simp
abbrev dcStep (P : Prog) (Φ : Phi) (ke ve : IE) (tg : ITg) (own : List Nat) (env : Mi.Env) (x : MV) (acc : List (MV × MV)) (st2 : Sto) (k : List (MV × MV) → Sto → Prop) : Prop :=
  setTg tg x (wipeE env own) fun σ2 => wpE P Φ ke σ2 st2 (fun kv st3 => isKey kv = true ∧ wpE P Φ ve σ2 st3 (fun y st4 => k (kPut kv y acc) st4) (fun _ _ _ => False)) (fun _ _ _ => False)
theorem dc_loop {scope : Scope} {g1 : Mu} {I1 F1 H1 : Hp} {st1 : Sto} {env : Mi.Env} {σ : HS} {J : L2.It} {xs : List MV} {ok : Sto → Prop} {ke ve : IE} {tg : ITg} {own : List Nat} {ek ev : Expr} {Fin : List (MV × MV) → Sto → Prop}
    (KX : X.K = T.K) (hJ : ItRel T g1 I1 F1 J xs ok) (hlen : xs.length < big) (S1 : T.Sim g1 I1 F1 H1 st1) (er : EnvRel T.K g1 I1 env σ) (hsl : ∀ i ∈ slots tg, i ∈ own)
    (hk : ∀ s H C cl fp, GoodE T Φ (Blk X scope s H C cl fp) ke ek) (he : ∀ s H C cl fp, GoodE T Φ (Blk X scope s H C cl fp) ve ev)
    (h : loop ok (dcStep T.P Φ ke ve tg own env) xs [] st1 Fin) (D : Addr) (hD : H1 D = none) :
    ∃ W : Nat → Nat → Hp → Prop, (∃ m, W 0 m (upd H1 D (.dK []))) ∧ ∀ i m H, W i m H →
      (J.stop i H ∧ HeldD T g1 I1 F1 D Fin xs.length H) ∨ (J.go i H ∧ ∃ Nx : Hp → Prop, (∀ H', Nx H' → ∃ m', m' < m ∧ W (i + 1) m' H') ∧ ∀ x H', J.yld i H x H' → tgS X.K tg x (wipe σ own) H' fun σ2 H2 => wipe σ2 own = wipe σ own ∧ tYes σ2 H2 fun b H3 =>
        if b = true then AllE X scope ek σ2 H3 fun y H4 => AllE X scope ev σ2 H4 fun z H5 => ∃ kvs k, y = kV k ∧ H5 D = some (.dK kvs) ∧ kvs.length < sizeLine ∧ Nx (upd H5 D (.dK (putK kvs k z))) else Nx H3) := by
  have leF : ∀ vs, LeH F1 (upd F1 D (.dK vs)) := fun vs => LeH.frame S1.fh hD
  refine ⟨fun i m H => m = xs.length - i ∧ i ≤ xs.length ∧ HeldD T g1 I1 F1 D (fun acc st' => loop ok (dcStep T.P Φ ke ve tg own env) (xs.drop i) acc st' Fin) i H,
    ⟨xs.length, by simp, Nat.zero_le _, g1, I1, st1, [], [], LeM.refl _, LeH.refl _, S1.frame hD, .nil, Nat.le_refl _, by simpa using h⟩, ?_⟩
  rintro i m H ⟨rfl, hi, g', I', st', acc, accV, hg, hI, S, r, hl, lp⟩
  cases hd : xs.drop i with
  | nil =>
    have hi' : xs.length ≤ i := by
      have := congrArg List.length hd
      simp at this
      omega
    rw [hd] at lp
    obtain ⟨o1, q1⟩ := lp
    exact .inl ⟨(hJ g' I' _ H st' i hg hI (leF _) S o1).1 hi', g', I', st', acc, accV, hg, hI, S, r, by omega, q1⟩
  | cons x rest =>
    obtain ⟨hx, hr, hlt⟩ := drop_cons hd
    rw [hd] at lp
    obtain ⟨o1, q1⟩ := lp
    obtain ⟨j1, j2⟩ := (hJ g' I' _ H st' i hg hI (leF _) S o1).2 x hx
    refine .inr ⟨j1, fun H' => HeldD T g1 I1 F1 D (fun acc st' => loop ok (dcStep T.P Φ ke ve tg own env) rest acc st' Fin) (i + 1) H', fun H' z => ⟨xs.length - (i + 1), by omega, rfl, hlt, by rw [hr]; exact z⟩, fun v H' y => ?_⟩
    obtain ⟨I2, le2, S2, r2⟩ := j2 v H' y
    have hI2 := hI.trans le2
    refine tg_run KX (er.wipeR own hg hI2) S2 r2 q1 fun σ2 env2 e2 q2 w2 => ⟨by rw [w2 own hsl, wipe_wipe], fun s H0 Cc cl fp => ?_⟩
    have racc := r.mono (LeM.refl _) le2
    refine (hk s H0 Cc cl fp g' I2 _ H' st' env2 σ2 _ _ (ER.no e2) S2 q2).mono fun kw H3 ⟨g3, I3, km, st3, a3, b3, S3, r3, q3⟩ => ?_
    obtain ⟨ky, q3⟩ := q3
    obtain ⟨k', ek', rfl⟩ := keyV_of ky r3
    refine fun s H0 Cc cl fp => (he s H0 Cc cl fp g3 I3 _ H3 st3 env2 σ2 _ _ (ER.no (e2.mono a3 b3)) S3 q3).mono fun y' H4 ⟨g4, I4, ym, st4, a4, b4, S4, r4, q4⟩ => ?_
    have r5 := racc.mono (a3.trans a4) (b3.trans b4)
    refine ⟨accV, k', rfl, S4.fh D _ upd_same, by rw [r5.len, ← big_eq]; omega, g4, I4, st4, kPut km ym acc, putK accV k' y', (hg.trans a3).trans a4, (hI2.trans b3).trans b4, S4.reframe dK_nofrz, r5.put ek' r4, ?_, q4⟩
    have := kPut_len km ym acc
    omega
theorem heldD_new {g g1 : Mu} {I I1 F H : Hp} {D : Addr} {Q : Post} {n : Nat} (hg : LeM g g1) (hI : LeH I I1) (hF : F D = none) (h : HeldD T g1 I1 F D (fun acc st => Q (.ref st.length) (st ++ [.dic false acc])) n H) : T.QV g I F Q (.ref D) H := by
  obtain ⟨g', I', st', acc, accV, a, b, S, r, _, q⟩ := h
  have hH := S.fh D _ upd_same
  have e : upd H D (.dK accV) = H := by
    funext z
    by_cases c : z = D
    · subst c; rw [upd_same, hH]
    · rw [upd_ne c]
  have S2 := S.adopt (u := .dK accV) (mo := .dic false acc) dK_nofrz hF ⟨accV, upd_same, r.mono (gAdd_le S.no) (LeH.refl _)⟩
  rw [e] at S2
  exact ⟨_, I', .ref st'.length, _, (hg.trans a).trans (gAdd_le S.no), hI.trans b, S2, ⟨D, by unfold gAdd; rw [if_pos rfl], rfl⟩, q⟩
theorem heldD_unlock {g1 : Mu} {I1 F H : Hp} {D p : Addr} {a n : Nat} {kvs : List (MV × MV)} {ws : List (Key × V)} {od : Obj} {P : List (MV × MV) → Sto → Prop} (hg : g1 a = some p) (hf : F p = none) (hD : D ≠ p)
    (h : HeldD T g1 I1 (upd F p (.frz od (.dK ws))) D (fun acc st => unlock a kvs st fun st' => P acc st') n H) : H p = some (.frz od (.dK ws)) ∧ HeldD T g1 I1 F D P n (upd H p (.dK ws)) := by
  obtain ⟨g', I', st', acc, accV, a1, b1, S, r, hl, hs, q⟩ := h
  have e1 := S.fh p (.frz od (.dK ws)) (by rw [upd_ne (Ne.symm hD), upd_same])
  rw [upd_comm (Ne.symm hD)] at S
  have S2 := S.unlock (by rw [upd_ne (Ne.symm hD)]; exact hf) (a1 _ _ hg) hs
  exact ⟨e1, g', I', _, acc, accV, a1, b1, S2, r, hl, q⟩
theorem good_dc (C : COk T L X) {ii : II} {ke ve : IE} {tg : ITg} {own : List (Str × Nat)} {ek ev tgE iter : Expr} {scope : Scope} {pos : Pos} (hi : GoodI T Φ X ii tgE iter) (ok : BlkOk X.N X.env.scope scope own)
    (ht : tgM X.N (relS scope X.env.scope) (fun x => scope.names.lookup x == some .cell) tg tgE = true) (hsl : ∀ i ∈ slots tg, i ∈ own.map (·.2)) (hk : ∀ s H C cl fp, GoodE T Φ (Blk X scope s H C cl fp) ke ek)
    (he : ∀ s H C cl fp, GoodE T Φ (Blk X scope s H C cl fp) ve ev) (hs : noSet iter = true) : GoodE T Φ X (.dc ke ve tg ii (own.map (·.2))) (.DictComp ek ev [⟨tgE, iter, [], 0⟩] scope pos) := by
  intro g I F H st env σ Q XP er S q
  refine run_E (pe_dc (g := tgS X.K tg) (tt := tYes) (tk := AllE X scope ek) (tv := AllE X scope ev) C.nd_calm C.nd rI ok (fun s H0 Cc cl fp => tg_pg (X := Blk X scope s H0 Cc cl fp) C.nd C.nd_calm ht) (fun s H0 Cc cl fp => pts_nil) (fun s H0 Cc cl fp => rAllE s H0 Cc cl fp) (fun s H0 Cc cl fp => rAllE s H0 Cc cl fp) (folded_ok hs _)) ?_
  refine (hi g I F H st env σ _ _ er S q).mono fun J H1 ⟨g1, I1, st1, J', a1, b1, S1, hJ, hlen, lp⟩ D hD => ?_
  obtain ⟨W, w0, w1⟩ := dc_loop (X := X) C.K hJ hlen S1 (er.mono a1 b1).rel hsl hk he lp D hD
  refine ⟨W, w0, fun i m H2 w => ?_⟩
  rcases w1 i m H2 w with ⟨z1, z2⟩ | z
  · exact .inl ⟨z1, heldD_new a1 b1 (none_of_le S1.fh hD) z2⟩
  · exact .inr z
theorem dc_goalD (C : COk T L X) {ii : II} {ke ve : IE} {tg : ITg} {own : List (Str × Nat)} {ek ev tgE iter : Expr} {scope : Scope} {g : Mu} {I F H : Hp} {st : Sto} {env : Mi.Env} {σ : HS} {Q : Post} {XP : Xp} (hd : isDW ii) (hi : DictI T Φ X ii tgE iter) (hsl : ∀ i ∈ slots tg, i ∈ own.map (·.2))
    (hk : ∀ s H C cl fp, GoodE T Φ (Blk X scope s H C cl fp) ke ek) (he : ∀ s H C cl fp, GoodE T Φ (Blk X scope s H C cl fp) ve ev) (er : ER T X XP g I F env σ) (S : T.Sim g I F H st) (q : wpE T.P Φ (.dc ke ve tg ii (own.map (·.2))) env st Q XP) :
    tDc (RunI X tgE iter) (tgS X.K tg) tYes (AllE X scope ek) (AllE X scope ev) (own.map (·.2)) σ H (fun v H' => UnL X (T.QV g I F Q v) H') := by
  refine (hi g I F H st env σ _ _ er S q).mono fun J H1 ⟨g1, I1, st1, a, p, kvs, ws, od, a1, b1, hp, hf, nf, S1, e3, hlen, lp⟩ D hD => ?_
  subst e3
  obtain ⟨ne, hF⟩ := apart S1.fh hD
  obtain ⟨W, w0, w1⟩ := dc_loop (X := X) C.K (dIt_rel hd hp) hlen S1 (er.mono a1 b1).rel hsl hk he lp D hD
  refine ⟨W, w0, fun i m H2 w => ?_⟩
  rcases w1 i m H2 w with ⟨z1, z2⟩ | z
  · obtain ⟨z3, z4⟩ := heldD_unlock (P := fun acc st6 => Q (.ref st6.length) (st6 ++ [.dic false acc])) hp hf ne z2
    exact .inl ⟨z1, p, od, .dK ws, z3, nf, heldD_new a1 b1 hF z4⟩
  · exact .inr z
theorem good_dcD (C : COk T L X) {ii : II} {ke ve : IE} {tg : ITg} {own : List (Str × Nat)} {ek ev tgE iter : Expr} {scope : Scope} {pos : Pos} (hd : isDW ii) (hi : DictI T Φ X ii tgE iter) (ok : BlkOk X.N X.env.scope scope own)
    (ht : tgM X.N (relS scope X.env.scope) (fun x => scope.names.lookup x == some .cell) tg tgE = true) (hsl : ∀ i ∈ slots tg, i ∈ own.map (·.2)) (hk : ∀ s H C cl fp, GoodE T Φ (Blk X scope s H C cl fp) ke ek)
    (he : ∀ s H C cl fp, GoodE T Φ (Blk X scope s H C cl fp) ve ev) (hs : noSet iter = true) : GoodE T Φ X (.dc ke ve tg ii (own.map (·.2))) (.DictComp ek ev [⟨tgE, iter, [], 0⟩] scope pos) := by
  intro g I F H st env σ Q XP er S q
  refine run_E (pe_unl (pe_dc (g := tgS X.K tg) (tt := tYes) (tk := AllE X scope ek) (tv := AllE X scope ev) C.nd_calm C.nd rI ok (fun s H0 Cc cl fp => tg_pg (X := Blk X scope s H0 Cc cl fp) C.nd C.nd_calm ht) (fun s H0 Cc cl fp => pts_nil) (fun s H0 Cc cl fp => rAllE s H0 Cc cl fp) (fun s H0 Cc cl fp => rAllE s H0 Cc cl fp) (folded_ok hs _))) ?_
  exact dc_goalD C hd hi hsl hk he er S q
end
end Snd
-- S18
namespace Snd
open PySem L2 Mi
section
variable {T : Tab} {Φ : Phi} {L : Nat} {X : Cx}

/-! ### ends -/
def QS (T : Tab) (g : Mu) (I F : Hp) (P : Mi.Env → Sto → Prop) : HS → Hp → Prop := fun σ' H' => ∃ g' I' env' st', LeM g g' ∧ LeH I I' ∧ T.Sim g' I' F H' st' ∧ EnvRel T.K g' I' env' σ' ∧ P env' st'
theorem QS.from_ {g g1 : Mu} {I I1 F : Hp} {P : Mi.Env → Sto → Prop} {σ : HS} {H : Hp} (hg : LeM g g1) (hI : LeH I I1) (h : QS T g1 I1 F P σ H) : QS T g I F P σ H := by
  obtain ⟨g', I', e, st', a, b, c⟩ := h
  exact ⟨g', I', e, st', hg.trans a, hI.trans b, c⟩
def EndR (T : Tab) (g : Mu) (I F : Hp) (D : Mi.Ends) : L2.Ends where
  nx := QS T g I F D.nx
  rt := T.QV g I F D.rt
  bk := QS T g I F D.bk
  ct := QS T g I F D.ct
structure EndLe (D D' : L2.Ends) : Prop where
  nx : ∀ σ H, D.nx σ H → D'.nx σ H
  rt : ∀ v H, D.rt v H → D'.rt v H
  bk : ∀ σ H, D.bk σ H → D'.bk σ H
  ct : ∀ σ H, D.ct σ H → D'.ct σ H
theorem SP.le {pins : List (Addr × Obj)} {D D' : L2.Ends} (l : EndLe D D') {f : Flow} {s : Shared} (h : SP X pins D f s) : SP X pins D' f s := by
  cases f with
  | next => obtain ⟨σ, H, I, q⟩ := h; exact ⟨σ, H, I, l.nx _ _ q⟩
  | brk => obtain ⟨σ, H, I, q⟩ := h; exact ⟨σ, H, I, l.bk _ _ q⟩
  | cont => obtain ⟨σ, H, I, q⟩ := h; exact ⟨σ, H, I, l.ct _ _ q⟩
  | ret u => obtain ⟨v, σ, H, I, r, q⟩ := h; exact ⟨v, σ, H, I, r, l.rt _ _ q⟩
theorem RunS.le {st : Stmt} {D D' : L2.Ends} {σ : HS} {H : Hp} (h : RunS X st D σ H) (l : EndLe D D') : RunS X st D' σ H := fun pins s I => thn (h pins s I) fun _ _ q => SP.le l q
theorem RunSs.le {st : List Stmt} {D D' : L2.Ends} {σ : HS} {H : Hp} (h : RunSs X st D σ H) (l : EndLe D D') : RunSs X st D' σ H := fun pins s I => thn (h pins s I) fun _ _ q => SP.le l q
theorem EndLe.from_ {g g1 : Mu} {I I1 F : Hp} {D : Mi.Ends} (hg : LeM g g1) (hI : LeH I I1) : EndLe (EndR T g1 I1 F D) (EndR T g I F D) :=
  ⟨fun _ _ h => QS.from_ hg hI h, fun _ _ h => QV.from_ hg hI h, fun _ _ h => QS.from_ hg hI h, fun _ _ h => QS.from_ hg hI h⟩
/-- the slots, and that X takes what is raised, whatever the slots then are -/
structure SR (T : Tab) (X : Cx) (ex : String → MV → Mi.Env → Sto → Prop) (g : Mu) (I F : Hp) (env : Mi.Env) (σ : HS) : Prop where
  rel : EnvRel T.K g I env σ
  tk : Takes X (XS T g I F ex)
theorem SR.e {ex : String → MV → Mi.Env → Sto → Prop} {g : Mu} {I F : Hp} {env : Mi.Env} {σ : HS} (h : SR T X ex g I F env σ) : ER T X (fun c v st' => ex c v env st') g I F env σ :=
  ⟨h.rel, h.tk.imp fun _ _ _ _ ⟨g', I', e', c, v, st', a, b, S, er, r, he, z⟩ => ⟨g', I', e', c, v, st', a, b, S, er, r, he ▸ z⟩⟩
theorem SR.at {ex : String → MV → Mi.Env → Sto → Prop} {g g' : Mu} {I I' F : Hp} {env env' : Mi.Env} {σ σ' : HS} (h : SR T X ex g I F env σ) (hg : LeM g g') (hI : LeH I I') (er : EnvRel T.K g' I' env' σ') : SR T X ex g' I' F env' σ' :=
  ⟨er, h.tk.imp fun _ _ _ _ z => z.from_ hg hI⟩
def GoodS (T : Tab) (Φ : Phi) (X : Cx) (is : IS) (s : Stmt) : Prop := ∀ (g : Mu) (I F H : Hp) (st : Sto) (env : Mi.Env) (σ : HS) (D : Mi.Ends), SR T X D.ex g I F env σ → T.Sim g I F H st → wpS T.P Φ is D env st → RunS X s (EndR T g I F D) σ H
def GoodSs (T : Tab) (Φ : Phi) (X : Cx) (is : List IS) (s : List Stmt) : Prop := ∀ (g : Mu) (I F H : Hp) (st : Sto) (env : Mi.Env) (σ : HS) (D : Mi.Ends), SR T X D.ex g I F env σ → T.Sim g I F H st → wpSs T.P Φ is D env st → RunSs X s (EndR T g I F D) σ H

/-! ### statements -/
theorem good_nil : GoodSs T Φ X [] [] := fun g I F H st env σ D er S q => run_Ss pss_nil ⟨g, I, env, st, LeM.refl _, LeH.refl _, S, er.rel, q⟩
theorem good_cons {i : IS} {is : List IS} {s : Stmt} {ss : List Stmt} (h1 : GoodS T Φ X i s) (h2 : GoodSs T Φ X is ss) : GoodSs T Φ X (i :: is) (s :: ss) := by
  intro g I F H st env σ D er S q
  refine run_Ss (pss_cons rS rSs) ?_
  refine (h1 g I F H st env σ { D with nx := fun σ1 st1 => wpSs T.P Φ is D σ1 st1 } er S q).le ⟨fun σ' H' ⟨g', I', e', st', a, b, S', er', q'⟩ => ?_, fun _ _ h => h, fun _ _ h => h, fun _ _ h => h⟩
  exact (h2 g' I' F H' st' e' σ' D (er.at a b er') S' q').le (EndLe.from_ a b)
theorem good_bad {s : Stmt} : GoodS T Φ X .bad s := fun g I F H st env σ D er S q => (show False from q).elim
theorem good_pass {p : Pos} : GoodS T Φ X .pass (.Pass p) := fun g I F H st env σ D er S q => run_S ps_pass ⟨g, I, env, st, LeM.refl _, LeH.refl _, S, er.rel, q⟩
theorem good_brk {p : Pos} : GoodS T Φ X .brk (.Break p) := fun g I F H st env σ D er S q => run_S ps_break ⟨g, I, env, st, LeM.refl _, LeH.refl _, S, er.rel, q⟩
theorem good_cont {p : Pos} : GoodS T Φ X .cont (.Continue p) := fun g I F H st env σ D er S q => run_S ps_continue ⟨g, I, env, st, LeM.refl _, LeH.refl _, S, er.rel, q⟩
theorem good_retN {p : Pos} : GoodS T Φ X .retN (.Return none p) := fun g I F H st env σ D er S q => run_S ps_retN (QV.non S q)
theorem good_ret {ie : IE} {e : Expr} {p : Pos} (h : GoodE T Φ X ie e) : GoodS T Φ X (.ret ie) (.Return (some e) p) := by
  intro g I F H st env σ D er S q
  have q : wpE T.P Φ ie env st D.rt (fun c v st' => D.ex c v env st') := q
  exact run_S (ps_ret rE) (h g I F H st env σ _ _ er.e S q)
def noComp : Expr → Bool
  | .ListComp _ _ _ _ => false
  | .SetComp _ _ _ _ => false
  | .DictComp _ _ _ _ _ => false
  | _ => true
theorem swaps_no {e : Expr} (h : noComp e = true) (tg : Option Expr) (n : Nat) (env : PySem.Env) : swapsWith e tg n env = pure false := by
  cases e <;> first | rfl | exact absurd h Bool.false_ne_true
theorem sole_tup {e : Expr} {es : List Expr} {k : Nat} {p : Pos} (n : Nat) (env : PySem.Env) : swapsWithSole [.Tuple es k p] e n env = pure false := by cases e <;> rfl
theorem sole_sub {e x y : Expr} {p : Pos} (n : Nat) (env : PySem.Env) : swapsWithSole [.Subscript x y p] e n env = pure false := by cases e <;> rfl
theorem good_expr {ie : IE} {e : Expr} {p : Pos} (h : GoodE T Φ X ie e) (hn : noComp e = true) : GoodS T Φ X (.expr ie) (.Expr e p) := by
  intro g I F H st env σ D er S q
  have q : wpE T.P Φ ie env st (fun _ st1 => D.nx env st1) (fun c v st' => D.ex c v env st') := q
  refine run_S (ps_expr rE (swaps_no hn _ _ _)) ?_
  exact h.then_ er.e S q fun g1 I1 H1 st1 y v a1 b1 S1 er1 r1 q1 => ⟨g1, I1, env, st1, a1, b1, S1, er1.rel, q1⟩
theorem good_set (C : COk T L X) {i : Nat} {x : Str} {ie : IE} {e : Expr} {p pos : Pos} (hi : X.N[i]? = some x) (hl : isLoc X.env.scope X.fn x = true) (h : GoodE T Φ X ie e) (hn : swapsWith e (some (.Name x p)) pos.line X.env = pure false) :
    GoodS T Φ X (.asg (.name i) ie) (.Assign [.Name x p] e pos) := by
  intro g I F H st env σ D er S q
  have q : wpE T.P Φ ie env st (fun v st1 => D.nx (env.set i (some v)) st1) (fun c v st' => D.ex c v env st') := q
  obtain ⟨h1, h2⟩ := isLoc_ok hl
  refine run_S (ps_set C.nd hi h1 rE hn h2) ?_
  exact h.then_ er.e S q fun g1 I1 H1 st1 y v a1 b1 S1 er1 r1 q1 => ⟨g1, I1, _, st1, a1, b1, S1, er1.rel.set i r1, q1⟩
theorem swapped_tup {es : List Expr} {k : Nat} {p : Pos} {e : Expr} (env : PySem.Env) (h : (match e with | .Tuple _ _ _ => false | _ => true) = true) : swappedStores [.Tuple es k p] e env = pure none := by
  cases e <;> first | rfl | exact absurd h Bool.false_ne_true
def noTup (e : Expr) : Bool := match e with | .Tuple _ _ _ => false | _ => true
theorem good_tupS (C : COk T L X) {tg : ITg} {es : List Expr} {ie : IE} {e : Expr} {k : Nat} {p pos : Pos} (ht : tgM X.N X.env.scope X.fn tg (.Tuple es k p) = true) (h : GoodE T Φ X ie e) (hw : swappedStores [.Tuple es k p] e X.env = pure none) :
    GoodS T Φ X (.asg tg ie) (.Assign [.Tuple es k p] e pos) := by
  intro g I F H st env σ D er S q
  have q : wpE T.P Φ ie env st (fun v st1 => setTgS tg v env st1 fun σ1 => D.nx σ1 st1) (fun c v st' => D.ex c v env st') := q
  refine run_S (ps_asg rE (PG.or (tg_pg C.nd C.nd_calm ht) (tg_pgU C.nd C.nd_calm ht)) (sole_tup _ _) hw rfl) ?_
  refine h.then_ er.e S q fun g1 I1 H1 st1 y v a1 b1 S1 er1 r1 q1 => ?_
  exact tgS_run C.K er1.rel S1 r1 q1 fun σ2 env2 e2 q2 => ⟨g1, I1, env2, st1, a1, b1, S1, e2, q2⟩
theorem good_par2 (C : COk T L X) {i j : Nat} {x y : Str} {es : IA} {a b : Expr} {px py pt pt2 pos : Pos} {kt k2 : Nat} (hi : X.N[i]? = some x) (hj : X.N[j]? = some y) (hij : i ≠ j)
    (hx : X.env.scope.names.lookup x = some .local) (hy : X.env.scope.names.lookup y = some .local) (h : GoodA T Φ X es [a, b]) (hw : swappedStores [.Tuple [.Name x px, .Name y py] kt pt] (.Tuple [a, b] k2 pt2) X.env = pure (some [x, y])) :
    GoodS T Φ X (.par [i, j] es) (.Assign [.Tuple [.Name x px, .Name y py] kt pt] (.Tuple [a, b] k2 pt2) pos) := by
  intro g I F H st env σ D er S q
  have q : wpA T.P Φ es env st (fun vs st1 => vs.length = 2 ∧ D.nx (([i, j].zip vs).foldl (fun s p => s.set p.1 (some p.2)) env) st1) (fun c v st' => D.ex c v env st') := q
  refine run_S (ps_par C.nd_calm C.nd hi hj hij hx hy rA hw rfl) ?_
  refine h.then_ er.e S q fun g1 I1 H1 st1 ys vs a1 b1 S1 er1 r1 q1 => ?_
  obtain ⟨hl, q1⟩ := q1
  match ys, hl with
  | [u, v], _ =>
    obtain ⟨v1, v2, rfl, r2, r3⟩ := r1.two
    exact ⟨v1, v2, rfl, g1, I1, _, st1, a1, b1, S1, (er1.rel.set i r2).set j r3, q1⟩
theorem good_par3 (C : COk T L X) {i j l : Nat} {x y z : Str} {es : IA} {a b c : Expr} {px py pz pt pt2 pos : Pos} {kt k2 : Nat} (hi : X.N[i]? = some x) (hj : X.N[j]? = some y) (hl : X.N[l]? = some z) (hij : i ≠ j) (hil : i ≠ l) (hjl : j ≠ l)
    (hx : X.env.scope.names.lookup x = some .local) (hy : X.env.scope.names.lookup y = some .local) (hz : X.env.scope.names.lookup z = some .local) (h : GoodA T Φ X es [a, b, c])
    (hw : swappedStores [.Tuple [.Name x px, .Name y py, .Name z pz] kt pt] (.Tuple [a, b, c] k2 pt2) X.env = pure (some [x, y, z])) :
    GoodS T Φ X (.par [i, j, l] es) (.Assign [.Tuple [.Name x px, .Name y py, .Name z pz] kt pt] (.Tuple [a, b, c] k2 pt2) pos) := by
  intro g I F H st env σ D er S q
  have q : wpA T.P Φ es env st (fun vs st1 => vs.length = 3 ∧ D.nx (([i, j, l].zip vs).foldl (fun s p => s.set p.1 (some p.2)) env) st1) (fun c v st' => D.ex c v env st') := q
  refine run_S (ps_par3 C.nd_calm C.nd hi hj hl hij hil hjl hx hy hz rA hw rfl) ?_
  refine h.then_ er.e S q fun g1 I1 H1 st1 ys vs a1 b1 S1 er1 r1 q1 => ?_
  obtain ⟨hl', q1⟩ := q1
  match ys, hl' with
  | [u, v, w], _ =>
    obtain ⟨v1, r, rfl, r2, r3⟩ := r1
    obtain ⟨v2, v3, rfl, r4, r5⟩ := RepVs.two r3
    exact ⟨v1, v2, v3, rfl, g1, I1, _, st1, a1, b1, S1, ((er1.rel.set i r2).set j r4).set l r5, q1⟩

/-! ### o[i] = v, o.f = v -/
def setSem (X : Cx) : TSet := fun o i v H Q => ∀ (pins : List (Addr × Obj)) (s : Shared) (σ : HS) (ov iv u : Value), Inv X pins σ H s → RelV o ov → RelV i iv → RelV v u →
    wpAny (model X.prog X.w) X.A (setItem ov iv u) (fun _ s' => ∃ H', Inv X pins σ H' s' ∧ Q H') X.xe s
theorem setSem_ok : PSet X (setSem X) := fun pins s σ H o i v ov iv u Q I r1 r2 r3 h => h pins s σ ov iv u I r1 r2 r3
theorem set_ok (C : COk T L X) {g : Mu} {I F H : Hp} {st : Sto} {x i y : MV} {o iv v : V} {Q : Sto → Prop} (S : T.Sim g I F H st) (rx : RepV T.K g I x o) (ri : RepV T.K g I i iv) (ry : RepV T.K g I y v) (h : opSet x i y st Q) :
    setSem X o iv v H fun H' => ∃ st', T.Sim g I F H' st' ∧ Q st' := by
  have hu := C.u
  cases x with
  | ref a =>
    obtain ⟨p, hp, rfl⟩ := rx
    simp only [opSet] at h
    split at h
    · rename_i xs hs
      obtain ⟨n, k, rfl, hk, q⟩ := h
      obtain ⟨vs, e1, r1⟩ := S.at_ hp hs
      cases ri
      have S2 : T.Sim g I F (upd H p (.lst (vs.set k v))) (st.set a (.lst (xs.set k y))) := S.write hp e1 rfl ⟨_, upd_same, r1.set k ry⟩
      exact fun pins s σ ov iv' u I0 h1 h2 h3 => set_list pins s σ H _ _ _ ov iv' u _ I0 h1 h2 h3 ⟨p, vs, n, k, rfl, rfl, e1, by rw [r1.len]; exact hk, _, S2, q⟩
    · rename_i kvs hs
      obtain ⟨hk, hl, q⟩ := h
      obtain ⟨k', ek, rfl⟩ := keyV_of hk ri
      obtain ⟨ws, e1, r1⟩ := S.at_ hp hs
      have S2 : T.Sim g I F (upd H p (.dK (putK ws k' v))) (st.set a (.dic false (kPut i y kvs))) := S.write hp e1 rfl ⟨_, upd_same, r1.put ek ry⟩
      intro pins s σ ov iv' u I0 h1 h2 h3
      cases h1
      exact d_setItem (by omega) I0 (.inl ⟨ws, k', e1, rfl, by rw [r1.len, ← big_eq]; exact hl, rfl⟩) h2 h3 fun s4 I4 => ⟨_, I4, _, S2, q⟩
    · exact h.elim
  | _ => exact h.elim
theorem good_setsub (C : COk T L X) {o i e : IE} {eo ei ev : Expr} {p pos : Pos} (ho : GoodE T Φ X o eo) (hi : GoodE T Φ X i ei) (he : GoodE T Φ X e ev) (hx : okIx ei = true) : GoodS T Φ X (.setsub o i e) (.Assign [.Subscript eo ei p] ev pos) := by
  intro g I F H st env σ D er S q
  have q : wpE T.P Φ e env st (fun v st1 => wpE T.P Φ o env st1 (fun x st2 => wpE T.P Φ i env st2 (fun y st3 => opSet x y v st3 fun st4 => D.nx env st4)
      (fun c v st' => D.ex c v env st')) (fun c v st' => D.ex c v env st')) (fun c v st' => D.ex c v env st') := q
  have ha : ∀ v, assign (.Subscript eo ei p) X.env v = (do
      let ov ← holding [v] (eval eo X.env)
      let iv ← holding [v, ov] (eval ei X.env)
      standAt p
      holding [v, ov, iv] (setItem ov iv v)
      release [v, ov, iv] []) := by
    intro v
    cases ei <;> first | rfl | exact absurd hx Bool.false_ne_true
  refine run_S (ps_asg rE (pg_sub rE rE setSem_ok ha) (sole_sub _ _) (by cases ev <;> rfl) (by cases ei <;> rfl)) ?_
  refine he.then_ er.e S q fun g1 I1 H1 st1 y v a1 b1 S1 er1 r1 q1 => ?_
  refine ho.then_ er1 S1 q1 fun g2 I2 H2 st2 xm xv a2 b2 S2 er2 r2 q2 => ?_
  refine hi.then_ er2 S2 q2 fun g3 I3 H3 st3 im iv a3 b3 S3 er3 r3 q3 => ?_
  intro pins s σ' ov iv' u I0 h1 h2 h3
  exact thn (set_ok C S3 (r2.mono a3 b3) r3 (r1.mono (a2.trans a3) (b2.trans b3)) q3 pins s σ' ov iv' u I0 h1 h2 h3) fun _ s' ⟨H', I', st', S', q'⟩ => ⟨H', I', g3, I3, env, st', (a1.trans a2).trans a3, (b1.trans b2).trans b3, S', er3.rel, q'⟩
theorem set_PG {o i : Expr} {p : Pos} (hx : okIx i = true) : PG X (.Subscript o i p) (gSub (RunE X o) (RunE X i) (setSem X)) := by
  refine pg_sub rE rE setSem_ok fun v => ?_
  cases i <;> first | rfl | exact absurd hx Bool.false_ne_true
theorem setSem.imp {o i v : V} {H : Hp} {Q Q' : Hp → Prop} (h : setSem X o i v H Q) (k : ∀ H', Q H' → Q' H') : setSem X o i v H Q' := fun pins s σ ov iv u I0 h1 h2 h3 => thn (h pins s σ ov iv u I0 h1 h2 h3) fun _ _ ⟨H', I', q⟩ => ⟨H', I', k H' q⟩
theorem good_set2 (C : COk T L X) {o i o2 i2 e : IE} {eo ei eo2 ei2 ev : Expr} {kt : Nat} {p p2 pt pos : Pos} (ho : GoodE T Φ X o eo) (hi : GoodE T Φ X i ei) (ho2 : GoodE T Φ X o2 eo2) (hi2 : GoodE T Φ X i2 ei2) (he : GoodE T Φ X e ev)
    (hx : okIx ei = true) (hx2 : okIx ei2 = true) (hw : swappedStores [.Tuple [.Subscript eo ei p, .Subscript eo2 ei2 p2] kt pt] ev X.env = pure none) :
    GoodS T Φ X (.set2 o i o2 i2 e) (.Assign [.Tuple [.Subscript eo ei p, .Subscript eo2 ei2 p2] kt pt] ev pos) := by
  intro g I F H st env σ D er S q
  have q : wpE T.P Φ e env st (fun w st1 => ∃ u v, w = .tup [u, v] ∧ wpE T.P Φ o env st1 (fun x st2 => wpE T.P Φ i env st2 (fun y st3 => opSet x y u st3 fun st4 =>
      wpE T.P Φ o2 env st4 (fun x' st5 => wpE T.P Φ i2 env st5 (fun y' st6 => opSet x' y' v st6 fun st7 => D.nx env st7) (fun c v st' => D.ex c v env st')) (fun c v st' => D.ex c v env st'))
      (fun c v st' => D.ex c v env st')) (fun c v st' => D.ex c v env st')) (fun c v st' => D.ex c v env st') := q
  refine run_S (ps_asg rE (pg_tup C.nd_calm (pgs_cons (set_PG hx) (pgs_cons (set_PG hx2) pgs_nil)) rfl rfl) (sole_tup _ _) hw rfl) ?_
  refine he.then_ er.e S q fun g1 I1 H1 st1 y v a1 b1 S1 er1 r1 q1 => ?_
  obtain ⟨u, w, rfl, q1⟩ := q1
  obtain ⟨pt, vs, rfl, h1, r1⟩ := r1
  obtain ⟨v1, v2, rfl, ra, rb⟩ := RepVs.two r1
  refine ⟨pt, [v1, v2], rfl, by rw [C.K]; exact S1.ih.tup h1, rfl, v1, [v2], rfl, ?_⟩
  refine ho.then_ er1 S1 q1 fun g2 I2 H2 st2 xm xv a2 b2 S2 er2 r2 q2 => ?_
  refine hi.then_ er2 S2 q2 fun g3 I3 H3 st3 im iv a3 b3 S3 er3 r3 q3 => ?_
  refine (set_ok C S3 (r2.mono a3 b3) r3 (ra.mono (a2.trans a3) (b2.trans b3)) q3).imp fun H4 ⟨st4, S4, q4⟩ => ?_
  refine ⟨v2, [], rfl, ?_⟩
  refine ho2.then_ er3 S4 q4 fun g5 I5 H5 st5 xm5 xv5 a5 b5 S5 er5 r5 q5 => ?_
  refine hi2.then_ er5 S5 q5 fun g6 I6 H6 st6 im6 iv6 a6 b6 S6 er6 r6 q6 => ?_
  have A : LeM g1 g6 := ((a2.trans a3).trans a5).trans a6
  have B : LeH I1 I6 := ((b2.trans b3).trans b5).trans b6
  refine (set_ok C S6 (r5.mono a6 b6) r6 (rb.mono A B) q6).imp fun H7 ⟨st7, S7, q7⟩ => ?_
  exact ⟨rfl, g6, I6, env, st7, a1.trans A, b1.trans B, S7, er6.rel, q7⟩
theorem RepFs.put {K : PySem.W.Frag} {g : Mu} {I : Hp} {fs : List (String × MV)} {ws : List (Str × V)} (r : RepFs K g I fs ws) {f : String} {x : MV} {v : V} (rv : RepV K g I x v) : RepFs K g I (putFld f x fs) (putF (Str.ofString f) v ws) := by
  induction r with
  | nil => exact .cons rv .nil
  | @cons f' y w r r' h2 h3 ih =>
    unfold putFld putF
    by_cases e : f' = f
    · subst e
      simp only [if_true]
      exact .cons rv h3
    · have e2 : ¬ Str.ofString f' = Str.ofString f := fun z => e (ofS_inj z)
      rw [if_neg e, if_neg e2]
      exact .cons h2 ih
theorem RepFs.len {K : PySem.W.Frag} {g : Mu} {I : Hp} {fs : List (String × MV)} {ws : List (Str × V)} (r : RepFs K g I fs ws) : ws.length = fs.length := by
  induction r with
  | nil => rfl
  | cons _ _ ih => simp [ih]
theorem good_setfld (TO : TOk T) (C : COk T L X) {o e : IE} {f : String} {eo ev : Expr} {p pos : Pos} (ho : GoodE T Φ X o eo) (he : GoodE T Φ X e ev) (hn : noComp ev = true ∨ swapsWith ev (some (.Attribute eo (Str.ofString f) p)) pos.line X.env = pure false) :
    GoodS T Φ X (.setfld o f e) (.Assign [.Attribute eo (Str.ofString f) p] ev pos) := by
  intro g I F H st env σ D er S q
  have q : wpE T.P Φ e env st (fun v st1 => wpE T.P Φ o env st1 (fun x st2 => ∃ n c fs, x = .ref n ∧ st2[n]? = some (.ins c fs) ∧ T.P.pr c f = some none ∧ fs.length < 20 ∧ D.nx env (st2.set n (.ins c (putFld f v fs))))
      (fun c v st' => D.ex c v env st')) (fun c v st' => D.ex c v env st') := q
  refine run_S (ps_fld rE rE (by rcases hn with hn | hn; exact swaps_no hn _ _ _; exact hn)) ?_
  refine he.then_ er.e S q fun g1 I1 H1 st1 y v a1 b1 S1 er1 r1 q1 => ?_
  refine ho.then_ er1 S1 q1 fun g2 I2 H2 st2 xm xv a2 b2 S2 er2 r2 q2 => ?_
  obtain ⟨n, c, fs, rfl, hs, hp0, hl, q2⟩ := q2
  obtain ⟨a, ha, rfl⟩ := r2
  obtain ⟨Cl, dx, ws, hc, hH, rf⟩ := S2.at_ ha hs
  refine ⟨a, Cl, dx, ws, rfl, hH, by rw [C.K]; exact TO.clk _ _ hc, by rw [C.K]; exact TO.fl c Cl f hc hp0, by rw [rf.len]; omega, g2, I2, env, _, a1.trans a2, b1.trans b2, ?_, er2.rel, q2⟩
  exact S2.write ha hH rfl ⟨Cl, dx, _, hc, upd_same, rf.put (r1.mono a2 b2)⟩

/-! ### if, while -/
theorem good_if {c : IE} {a b : List IS} {ec : Expr} {sa sb : List Stmt} {p : Pos} (hc : GoodT T Φ X c ec) (ha : GoodSs T Φ X a sa) (hb : GoodSs T Φ X b sb) : GoodS T Φ X (.iff c a b) (.If ec sa sb p) := by
  intro g I F H st env σ D er S q
  have q : wpE T.P Φ c env st (fun x st1 => ∃ t, truth st1 x = some t ∧ if t = true then wpSs T.P Φ a D env st1 else wpSs T.P Φ b D env st1) (fun c v st' => D.ex c v env st') := q
  refine run_S (ps_if rT rSs rSs) ?_
  refine hc.then_ (R := fun t _ st1 => if t = true then wpSs T.P Φ a D env st1 else wpSs T.P Φ b D env st1) er.e S q fun g1 I1 H1 st1 t x a1 b1 S1 er1 ht q1 => ?_
  cases t with
  | true => exact (ha g1 I1 F H1 st1 env σ D (er.at a1 b1 er1.rel) S1 q1).le (EndLe.from_ a1 b1)
  | false => exact (hb g1 I1 F H1 st1 env σ D (er.at a1 b1 er1.rel) S1 q1).le (EndLe.from_ a1 b1)
theorem good_while (po : PassesOwn (model X.prog X.w) X.A X.env X.xe) {c : IE} {b : List IS} {ec : Expr} {sb : List Stmt} {p : Pos} (hc : GoodT T Φ X c ec) (hb : GoodSs T Φ X b sb) : GoodS T Φ X (.whl c b) (.While ec sb [] p) := by
  intro g I F H st env σ D er S q
  obtain ⟨n, q⟩ := q
  refine run_S (ps_while po rT rSs) ?_
  refine ⟨fun m σ' H' => QS T g I F (whileN (fun σ1 st1 k => wpE T.P Φ c σ1 st1 (fun x st2 => ∃ t, truth st2 x = some t ∧ k t st2) (fun c v st' => D.ex c v σ1 st')) (wpSs T.P Φ b) D m) σ' H', ⟨n, g, I, env, st, LeM.refl _, LeH.refl _, S, er.rel, q⟩, ?_⟩
  rintro m σ1 H1 ⟨g1, I1, env1, st1, a1, b1, S1, er1, q1⟩
  cases m with
  | zero => exact (show False from q1).elim
  | succ m =>
    have q1 : wpE T.P Φ c env1 st1 (fun x st2 => ∃ t, truth st2 x = some t ∧ if t = true then wpSs T.P Φ b { D with nx := whileN _ (wpSs T.P Φ b) D m, ct := whileN _ (wpSs T.P Φ b) D m, bk := D.nx } env1 st2 else D.nx env1 st2) (fun c v st' => D.ex c v env1 st') := q1
    refine hc.then_ (R := fun t _ st2 => if t = true then wpSs T.P Φ b { D with nx := whileN _ (wpSs T.P Φ b) D m, ct := whileN _ (wpSs T.P Φ b) D m, bk := D.nx } env1 st2 else D.nx env1 st2) (er.at a1 b1 er1).e S1 q1 fun g2 I2 H2 st2 t x a2 b2 S2 er2 ht q2 => ?_
    cases t with
    | false => exact ⟨g2, I2, env1, st2, a1.trans a2, b1.trans b2, S2, er2.rel, q2⟩
    | true =>
      refine ⟨_, fun σ' H' z => ⟨m, Nat.lt_succ_self _, z⟩, ?_⟩
      exact (hb g2 I2 F H2 st2 env1 σ1 { D with nx := whileN _ (wpSs T.P Φ b) D m, ct := whileN _ (wpSs T.P Φ b) D m, bk := D.nx } (er.at (a1.trans a2) (b1.trans b2) er2.rel) S2 q2).le
        ⟨fun _ _ z => QS.from_ (a1.trans a2) (b1.trans b2) z, fun _ _ z => QV.from_ (a1.trans a2) (b1.trans b2) z, fun _ _ z => QS.from_ (a1.trans a2) (b1.trans b2) z, fun _ _ z => QS.from_ (a1.trans a2) (b1.trans b2) z⟩
end
end Snd
-- S19
namespace Snd
open PySem L2 Mi
section
variable {T : Tab} {Φ : Phi} {L : Nat} {X : Cx}

/-! ### for -/
abbrev forStep (P : Prog) (Φ : Phi) (tg : ITg) (b : List IS) (Bk : Mi.Env → Sto → Prop) (Rt : MV → Sto → Prop) (Ex : String → MV → Mi.Env → Sto → Prop) (x : MV) (σ1 : Mi.Env) (st2 : Sto) (k : Mi.Env → Sto → Prop) : Prop :=
  setTg tg x σ1 fun σ2 => wpSs P Φ b { nx := k, ct := k, bk := Bk, rt := Rt, ex := Ex } σ2 st2
theorem for_core {g1 : Mu} {I1 F1 H1 : Hp} {st1 : Sto} {env : Mi.Env} {σ : HS} {J : L2.It} {xs : List MV} {ok : Sto → Prop} {tg : ITg} {b : List IS} {sb : List Stmt} {Bk : Mi.Env → Sto → Prop} {Rt : MV → Sto → Prop} {Ex : String → MV → Mi.Env → Sto → Prop} {Dn : L2.Ends}
    (KX : X.K = T.K) (hJ : ItRel T g1 I1 F1 J xs ok) (S1 : T.Sim g1 I1 F1 H1 st1) (er : SR T X Ex g1 I1 F1 env σ) (hb : GoodSs T Φ X b sb)
    (h : loop ok (forStep T.P Φ tg b Bk Rt Ex) xs env st1 Bk) (hn : ∀ σ' H', QS T g1 I1 F1 Bk σ' H' → Dn.nx σ' H') (hr : ∀ v H', T.QV g1 I1 F1 Rt v H' → Dn.rt v H') :
    ∃ W : Nat → Nat → HS → Hp → Prop, (∃ m, W 0 m σ H1) ∧ ∀ i m σ H, W i m σ H →
      (J.stop i H ∧ Dn.nx σ H) ∨ (J.go i H ∧ ∃ N : HS → Hp → Prop, (∀ σ' H', N σ' H' → ∃ m', m' < m ∧ W (i + 1) m' σ' H') ∧ ∀ x H', J.yld i H x H' → tgS X.K tg x σ H' fun σ2 H2 => RunSs X sb { Dn with nx := N, ct := N, bk := Dn.nx } σ2 H2) := by
  refine ⟨fun i m σ' H => m = xs.length - i ∧ i ≤ xs.length ∧ QS T g1 I1 F1 (fun env' st' => loop ok (forStep T.P Φ tg b Bk Rt Ex) (xs.drop i) env' st' Bk) σ' H,
    ⟨xs.length, by simp, Nat.zero_le _, g1, I1, env, st1, LeM.refl _, LeH.refl _, S1, er.rel, by simpa using h⟩, ?_⟩
  rintro i m σ' H ⟨rfl, hi, g', I', env', st', hg, hI, S, er', lp⟩
  cases hd : xs.drop i with
  | nil =>
    have hi' : xs.length ≤ i := by
      have := congrArg List.length hd
      simp at this
      omega
    rw [hd] at lp
    obtain ⟨o1, q1⟩ := lp
    exact .inl ⟨(hJ g' I' _ H st' i hg hI (LeH.refl _) S o1).1 hi', hn _ _ ⟨g', I', env', st', hg, hI, S, er', q1⟩⟩
  | cons x rest =>
    obtain ⟨hx', hr', hlt⟩ := drop_cons hd
    rw [hd] at lp
    obtain ⟨o1, q1⟩ := lp
    obtain ⟨j1, j2⟩ := (hJ g' I' _ H st' i hg hI (LeH.refl _) S o1).2 x hx'
    refine .inr ⟨j1, QS T g1 I1 F1 (fun env' st' => loop ok (forStep T.P Φ tg b Bk Rt Ex) rest env' st' Bk), fun σ2 H' z => ⟨xs.length - (i + 1), by omega, rfl, hlt, by rw [hr']; exact z⟩, fun v H' y => ?_⟩
    obtain ⟨I2, le2, S2, r2⟩ := j2 v H' y
    have hI2 := hI.trans le2
    refine tg_run KX (er'.mono (LeM.refl _) le2) S2 r2 q1 fun σ2 env2 e2 q2 _ => ?_
    refine (hb g' I2 F1 H' st' env2 σ2 ⟨fun a' s' => loop ok (forStep T.P Φ tg b Bk Rt Ex) rest a' s' Bk, Rt, Bk, fun a' s' => loop ok (forStep T.P Φ tg b Bk Rt Ex) rest a' s' Bk, Ex⟩ (er.at hg hI2 e2) S2 q2).le ⟨fun _ _ z => QS.from_ hg hI2 z, fun _ _ z => hr _ _ (QV.from_ hg hI2 z), fun _ _ z => hn _ _ (QS.from_ hg hI2 z), fun _ _ z => QS.from_ hg hI2 z⟩
theorem good_for (po : PassesOwn (model X.prog X.w) X.A X.env X.xe) (C : COk T L X) {tg : ITg} {ii : II} {b : List IS} {tgE iter : Expr} {sb : List Stmt} {p : Pos} (hpl : Plain ii = true) (hi : GoodI T Φ X ii tgE iter) (ht : tgM X.N X.env.scope X.fn tg tgE = true) (hb : GoodSs T Φ X b sb) (hs : noSet iter = true) :
    GoodS T Φ X (.for_ tg ii b) (.For tgE iter sb [] p) := by
  intro g I F H st env σ D er S q
  refine run_S (ps_for po C.nd_calm rI (tg_pg C.nd C.nd_calm ht) rSs (folded_ok hs _)) ?_
  have q : wpI T.P Φ ii env st (fun J st1 fin => loop J.ok (fun x σ1 st2 k => setTg tg x σ1 fun σ2 => wpSs T.P Φ b { nx := k, ct := k, bk := fun σ' st' => fin st' fun st'' => D.nx σ' st'', rt := fun v st' => fin st' fun st'' => D.rt v st'', ex := fun c v σ' st' => Plain ii = true ∧ D.ex c v σ' st' } σ2 st2) J.xs env st1
        fun σ' st' => fin st' fun st'' => D.nx σ' st'') (fun c v st' => D.ex c v env st') := q
  refine (hi g I F H st env σ _ _ er.e S q).mono fun J H1 ⟨g1, I1, st1, J', a1, b1, S1, hJ, lp⟩ => ?_
  exact for_core (Bk := D.nx) (Rt := D.rt) (Ex := fun c v σ' st' => Plain ii = true ∧ D.ex c v σ' st') (Dn := EndR T g I F D) C.K hJ S1 ⟨er.rel.mono a1 b1, er.tk.imp fun _ _ _ _ ⟨g', I', e', c, v, st', z1, z2, z3, z4, z5, z6⟩ => ⟨g', I', e', c, v, st', a1.trans z1, b1.trans z2, z3, z4, z5, z6.2⟩⟩ hb lp (fun σ' H' z => QS.from_ a1 b1 z) (fun v H' z => QV.from_ a1 b1 z)
theorem isDW_no {ii : II} (h : isDW ii) : ¬ Plain ii = true := by
  obtain ⟨e, rfl | rfl | rfl⟩ := h <;> exact fun z => nomatch z
theorem QS.unlock {g : Mu} {I F H : Hp} {σ : HS} {p : Addr} {a : Nat} {kvs : List (MV × MV)} {ws : List (Key × V)} {od : Obj} {P : Mi.Env → Sto → Prop} (hg : g a = some p) (hf : F p = none)
    (h : QS T g I (upd F p (.frz od (.dK ws))) (fun σ' st' => Mi.unlock a kvs st' fun st'' => P σ' st'') σ H) : H p = some (.frz od (.dK ws)) ∧ QS T g I F P σ (upd H p (.dK ws)) := by
  obtain ⟨g', I', e, st', a1, b1, S, er, hs, q⟩ := h
  exact ⟨S.fh p _ upd_same, g', I', e, _, a1, b1, S.unlock hf (a1 _ _ hg) hs, er, q⟩
theorem QV.unlock {g : Mu} {I F H : Hp} {v : V} {p : Addr} {a : Nat} {kvs : List (MV × MV)} {ws : List (Key × V)} {od : Obj} {P : Post} (hg : g a = some p) (hf : F p = none)
    (h : T.QV g I (upd F p (.frz od (.dK ws))) (fun x st' => Mi.unlock a kvs st' fun st'' => P x st'') v H) : H p = some (.frz od (.dK ws)) ∧ T.QV g I F P v (upd H p (.dK ws)) := by
  obtain ⟨g', I', x, st', a1, b1, S, r, hs, q⟩ := h
  exact ⟨S.fh p _ upd_same, g', I', x, _, a1, b1, S.unlock hf (a1 _ _ hg) hs, r, q⟩
theorem good_forD (po : PassesOwn (model X.prog X.w) X.A X.env X.xe) (C : COk T L X) {tg : ITg} {ii : II} {b : List IS} {tgE iter : Expr} {sb : List Stmt} {p : Pos} (hd : isDW ii) (hi : DictI T Φ X ii tgE iter) (ht : tgM X.N X.env.scope X.fn tg tgE = true) (hb : GoodSs T Φ X b sb) (hs : noSet iter = true) :
    GoodS T Φ X (.for_ tg ii b) (.For tgE iter sb [] p) := by
  intro g I F H st env σ D er S q
  refine run_S (ps_unl (ps_for po C.nd_calm rI (tg_pg C.nd C.nd_calm ht) rSs (folded_ok hs _))) ?_
  have q : wpI T.P Φ ii env st (fun J st1 fin => loop J.ok (fun x σ1 st2 k => setTg tg x σ1 fun σ2 => wpSs T.P Φ b { nx := k, ct := k, bk := fun σ' st' => fin st' fun st'' => D.nx σ' st'', rt := fun v st' => fin st' fun st'' => D.rt v st'', ex := fun c v σ' st' => Plain ii = true ∧ D.ex c v σ' st' } σ2 st2) J.xs env st1
        fun σ' st' => fin st' fun st'' => D.nx σ' st'') (fun c v st' => D.ex c v env st') := q
  refine (hi g I F H st env σ _ _ er.e S q).mono fun J H1 ⟨g1, I1, st1, a, r, kvs, ws, od, a1, b1, hp, hf, nf, S1, e3, lp⟩ => ?_
  subst e3
  refine for_core (Bk := fun σ' st' => Mi.unlock a kvs st' fun st'' => D.nx σ' st'') (Rt := fun v st' => Mi.unlock a kvs st' fun st'' => D.rt v st'') (Ex := fun c v σ' st' => Plain ii = true ∧ D.ex c v σ' st')
    C.K (dIt_rel hd hp) S1 ⟨er.rel.mono a1 b1, takes_no fun _ _ _ _ ⟨_, _, _, _, _, _, _, _, _, _, _, z, _⟩ => absurd z (isDW_no hd)⟩ hb lp (fun σ' H' z => ?_) (fun v H' z => ?_)
  · obtain ⟨z1, z2⟩ := QS.unlock (P := D.nx) hp hf z
    exact ⟨r, od, .dK ws, z1, nf, QS.from_ a1 b1 z2⟩
  · obtain ⟨z1, z2⟩ := QV.unlock (P := D.rt) hp hf z
    exact ⟨r, od, .dK ws, z1, nf, QV.from_ a1 b1 z2⟩

/-! ### name = [..], name = {..} where the block hands its value on -/
theorem sw_lc {C : COk T L X} {elt : Expr} {gs : List Comprehension} {scope : Scope} {pos py : Pos} {y : Str} {l : Nat} (hk : X.env.scope.kind = .function) (hy : X.env.scope.names.lookup y = some .local) (hl : (py.line == pos.line) = true)
    (ha : (scope.names.any fun (n, k) => n == y && (k == .local || k == .cell)) = false) : swapsWith (.ListComp elt gs scope pos) (some (.Name y py)) l X.env = pure true := sw_true hk hy hl ha
theorem sw_dc {env : PySem.Env} {ek ev : Expr} {gs : List Comprehension} {scope : Scope} {pos py : Pos} {y : Str} {l : Nat} (hk : env.scope.kind = .function) (hy : env.scope.names.lookup y = some .local) (hl : (py.line == pos.line) = true)
    (ha : (scope.names.any fun (n, k) => n == y && (k == .local || k == .cell)) = false) : swapsWith (.DictComp ek ev gs scope pos) (some (.Name y py)) l env = pure true := by
  have ky : env.kindOf y = some .local := hy
  have hb : env.blockKind = .function := by unfold Env.blockKind; rw [hk]; rfl
  unfold swapsWith
  simp only [hb, ky, ha, Expr.pos, hl]
  rfl
theorem lc_goal (C : COk T L X) {ii : II} {elt : IE} {tg : ITg} {cond : IO} {own : List (Str × Nat)} {e tgE iter : Expr} {ifs : List Expr} {scope : Scope} {g : Mu} {I F H : Hp} {st : Sto} {env : Mi.Env} {σ : HS} {Q : Post} (hi : GoodI T Φ X ii tgE iter) (hsl : ∀ i ∈ slots tg, i ∈ own.map (·.2)) (hc : ∀ s H C cl fp, GoodC T Φ (Blk X scope s H C cl fp) cond ifs)
    (he : ∀ s H C cl fp, GoodE T Φ (Blk X scope s H C cl fp) elt e) {XP : Xp} (er : ER T X XP g I F env σ) (S : T.Sim g I F H st) (q : wpE T.P Φ (.lc elt tg ii cond (own.map (·.2))) env st Q XP) :
    tLc (RunI X tgE iter) (tgS X.K tg) (AllTs X scope ifs) (AllE X scope e) (own.map (·.2)) σ H (T.QV g I F Q) := by
  refine (hi g I F H st env σ _ _ er S q).mono fun J H1 ⟨g1, I1, st1, J', a1, b1, S1, hJ, hlen, lp⟩ D hD => ?_
  obtain ⟨W, w0, w1⟩ := lc_loop (X := X) C.K hJ hlen S1 (er.mono a1 b1).rel hsl hc he lp D hD
  refine ⟨W, w0, fun i m H2 w => ?_⟩
  rcases w1 i m H2 w with ⟨z1, z2⟩ | z
  · exact .inl ⟨z1, held_new a1 b1 (none_of_le S1.fh hD) z2⟩
  · exact .inr z
theorem good_setLc (C : COk T L X) {i : Nat} {y : Str} {py spos : Pos} {ii : II} {elt : IE} {tg : ITg} {cond : IO} {own : List (Str × Nat)} {e tgE iter : Expr} {ifs : List Expr} {scope : Scope} {pos : Pos} (hy : X.N[i]? = some y) (hyl : X.env.scope.names.lookup y = some .local)
    (hsw : swapsWith (.ListComp e [⟨tgE, iter, ifs, 0⟩] scope pos) (some (.Name y py)) spos.line X.env = pure true) (hi : GoodI T Φ X ii tgE iter) (ok : BlkOk X.N X.env.scope scope own)
    (ht : tgM X.N (relS scope X.env.scope) (fun x => scope.names.lookup x == some .cell) tg tgE = true) (hsl : ∀ i ∈ slots tg, i ∈ own.map (·.2)) (hc : ∀ s H C cl fp, GoodC T Φ (Blk X scope s H C cl fp) cond ifs)
    (he : ∀ s H C cl fp, GoodE T Φ (Blk X scope s H C cl fp) elt e) (hs : noSet iter = true) : GoodS T Φ X (.asg (.name i) (.lc elt tg ii cond (own.map (·.2)))) (.Assign [.Name y py] (.ListComp e [⟨tgE, iter, ifs, 0⟩] scope pos) spos) := by
  intro g I F H st env σ D er S q
  have q : wpE T.P Φ (.lc elt tg ii cond (own.map (·.2))) env st (fun v st1 => D.nx (env.set i (some v)) st1) (fun c v st' => D.ex c v env st') := q
  refine run_S (ps_setLc (g := tgS X.K tg) (tt := AllTs X scope ifs) (te := AllE X scope e) C.nd_calm C.nd hy hyl hsw rI ok (fun s H0 Cc cl fp => tg_pg (X := Blk X scope s H0 Cc cl fp) C.nd C.nd_calm ht) (fun s H0 Cc cl fp => rAllTs s H0 Cc cl fp) (fun s H0 Cc cl fp => rAllE s H0 Cc cl fp) (folded_ok hs _)) ?_
  have z := lc_goal C hi hsl hc he er.e S q
  refine RunI.mono z fun J H1 h D0 hD0 => ?_
  obtain ⟨W, w0, w1⟩ := h D0 hD0
  refine ⟨W, w0, fun i' m H2 w => ?_⟩
  rcases w1 i' m H2 w with ⟨z1, z2⟩ | z
  · obtain ⟨g', I', x, st', a, b, S', r, q'⟩ := z2
    exact .inl ⟨z1, g', I', _, st', a, b, S', (er.rel.mono a b).set i r, q'⟩
  · exact .inr z
theorem good_setLcD (C : COk T L X) {i : Nat} {y : Str} {py spos : Pos} {ii : II} {elt : IE} {tg : ITg} {cond : IO} {own : List (Str × Nat)} {e tgE iter : Expr} {ifs : List Expr} {scope : Scope} {pos : Pos} (hy : X.N[i]? = some y) (hyl : X.env.scope.names.lookup y = some .local)
    (hsw : swapsWith (.ListComp e [⟨tgE, iter, ifs, 0⟩] scope pos) (some (.Name y py)) spos.line X.env = pure true) (hd : isDW ii) (hi : DictI T Φ X ii tgE iter) (ok : BlkOk X.N X.env.scope scope own)
    (ht : tgM X.N (relS scope X.env.scope) (fun x => scope.names.lookup x == some .cell) tg tgE = true) (hsl : ∀ i ∈ slots tg, i ∈ own.map (·.2)) (hc : ∀ s H C cl fp, GoodC T Φ (Blk X scope s H C cl fp) cond ifs)
    (he : ∀ s H C cl fp, GoodE T Φ (Blk X scope s H C cl fp) elt e) (hs : noSet iter = true) : GoodS T Φ X (.asg (.name i) (.lc elt tg ii cond (own.map (·.2)))) (.Assign [.Name y py] (.ListComp e [⟨tgE, iter, ifs, 0⟩] scope pos) spos) := by
  intro g I F H st env σ D er S q
  have q : wpE T.P Φ (.lc elt tg ii cond (own.map (·.2))) env st (fun v st1 => D.nx (env.set i (some v)) st1) (fun c v st' => D.ex c v env st') := q
  refine run_S (ps_unl (ps_setLc (g := tgS X.K tg) (tt := AllTs X scope ifs) (te := AllE X scope e) C.nd_calm C.nd hy hyl hsw rI ok (fun s H0 Cc cl fp => tg_pg (X := Blk X scope s H0 Cc cl fp) C.nd C.nd_calm ht) (fun s H0 Cc cl fp => rAllTs s H0 Cc cl fp) (fun s H0 Cc cl fp => rAllE s H0 Cc cl fp) (folded_ok hs _))) ?_
  have z := lc_goalD C hd hi hsl hc he er.e S q
  refine RunI.mono z fun J H1 h D0 hD0 => ?_
  obtain ⟨W, w0, w1⟩ := h D0 hD0
  refine ⟨W, w0, fun i' m H2 w => ?_⟩
  rcases w1 i' m H2 w with ⟨z1, d, od, u, z3, nf, g', I', x, st', a, b, S', r, q'⟩ | z
  · exact .inl ⟨z1, d, od, u, z3, nf, g', I', _, st', a, b, S', (er.rel.mono a b).set i r, q'⟩
  · exact .inr z
end
end Snd
-- S20
namespace Snd
open PySem L2 Mi
section
variable {T : Tab} {Φ : Phi} {L : Nat} {X : Cx}

/-! ### {k: v, ..} -/
inductive RepPs (K : PySem.W.Frag) (g : Mu) (I : Hp) : List (MV × MV) → List (V × V) → Prop where
  | nil : RepPs K g I [] []
  | cons {k x : MV} {v w : V} {r : List (MV × MV)} {r' : List (V × V)} : RepV K g I k v → RepV K g I x w → RepPs K g I r r' → RepPs K g I ((k, x) :: r) ((v, w) :: r')
theorem RepPs.keys {K : PySem.W.Frag} {g : Mu} {I : Hp} {kvs : List (MV × MV)} {ps : List (V × V)} (r : RepPs K g I kvs ps) (h : kvs.all (fun kv => isKey kv.1) = true) :
    ∃ ks : List (Key × V), ps = ks.map (fun kv => (kV kv.1, kv.2)) ∧ RepKV K g I kvs ks := by
  induction r with
  | nil => exact ⟨[], rfl, .nil⟩
  | @cons k x v w r r' h1 h2 _ ih =>
    simp only [List.all_cons, Bool.and_eq_true] at h
    obtain ⟨ks, e1, e2⟩ := ih h.2
    obtain ⟨k', e3, e4⟩ := keyV_of h.1 h1
    exact ⟨(k', w) :: ks, by rw [e1, e4]; rfl, .cons e3 h2 e2⟩
theorem RepKV.merge {K : PySem.W.Frag} {g : Mu} {I : Hp} {kvs : List (MV × MV)} {ks : List (Key × V)} (r : RepKV K g I kvs ks) : ∀ {acc : List (MV × MV)} {wcc : List (Key × V)}, RepKV K g I acc wcc →
    RepKV K g I (kvs.foldl (fun acc kv => kPut kv.1 kv.2 acc) acc) (mergeK wcc ks) := by
  induction r with
  | nil => intro acc wcc h; exact h
  | cons h1 h2 _ ih => intro acc wcc h; exact ih (h.put h1 h2)
theorem Sim.unframe {K : PySem.W.Frag} {cl : Kl} {g : Mu} {I F H : Hp} {st : Sto} {p : Addr} {w : HO} (S : Snd.Sim K cl g I (upd F p w) H st) (hw : ∀ o ws, w ≠ .frz o (.dK ws)) (hf : F p = none) : Snd.Sim K cl g I F H st where
  obj := fun a o h => by
    obtain ⟨q, h1, h2⟩ := S.obj a o h
    refine ⟨q, h1, h2.mono (LeM.refl _) (LeH.refl _) rfl ?_⟩
    by_cases e : q = p
    · subst e
      obtain ⟨o', ws, z⟩ := S.fm a q w h1 upd_same
      exact absurd z (hw _ _)
    · exact (upd_ne e).symm
  dom := S.dom
  inj := S.inj
  ih := S.ih
  im := S.im
  fh := fun q u h => S.fh q u (by
    by_cases e : q = p
    · subst e; rw [hf] at h; cases h
    · rw [upd_ne e]; exact h)
  fm := fun a q u h1 h2 => S.fm a q u h1 (by
    by_cases e : q = p
    · subst e; rw [hf] at h2; cases h2
    · rw [upd_ne e]; exact h2)
  fi := fun q u h => S.fi q u (by
    by_cases e : q = p
    · subst e; rw [hf] at h; cases h
    · rw [upd_ne e]; exact h)
  tb := S.tb
  ti := S.ti
  tf := fun q u h => S.tf q u (by
    by_cases e : q = p
    · subst e; rw [hf] at h; cases h
    · rw [upd_ne e]; exact h)
theorem ER.framed {XP : Xp} {g : Mu} {I F : Hp} {env : Mi.Env} {σ : HS} {p : Addr} {w : HO} (h : ER T X XP g I F env σ) (hw : ∀ o ws, w ≠ .frz o (.dK ws)) (hf : F p = none) : ER T X XP g I (upd F p w) env σ :=
  ⟨h.rel, h.tk.imp fun _ _ _ _ ⟨g', I', e', c, v, st', z1, z2, z3, z4⟩ => ⟨g', I', e', c, v, st', z1, z2, z3.unframe hw hf, z4⟩⟩
def trsOf (X : Cx) : List (Option Expr) → List Expr → List (TE × TE)
  | some k :: ks, v :: vs => (RunE X k, RunE X v) :: trsOf X ks vs
  | _, _ => []
def GoodP (T : Tab) (Φ : Phi) (X : Cx) (ip : IP) (ks : List (Option Expr)) (vs : List Expr) : Prop := (ks.all (·.isSome) = true ∧ ks.length = vs.length ∧ ∀ pos, PPs X pos ks vs (trsOf X ks vs)) ∧
  ∀ (g : Mu) (I F H : Hp) (st : Sto) (env : Mi.Env) (σ : HS) (Q : List (MV × MV) → Sto → Prop) (Qr : List (V × V) → Hp → Prop) (XP : Xp), ER T X XP g I F env σ → T.Sim g I F H st → wpP T.P Φ ip env st Q XP →
    (∀ g1 I1 H1 st1 kvs ps, LeM g g1 → LeH I I1 → T.Sim g1 I1 F H1 st1 → RepPs T.K g1 I1 kvs ps → Q kvs st1 → Qr ps H1) → tPairs (trsOf X ks vs) σ H Qr
theorem good_pnil : GoodP T Φ X .nil [] [] := ⟨⟨rfl, rfl, fun _ => pps_nil⟩, fun g I F H st env σ Q Qr XP er S q k => k g I H st [] [] (LeM.refl _) (LeH.refl _) S .nil q⟩
theorem good_pcons {k v : IE} {r : IP} {ek ev : Expr} {ks : List (Option Expr)} {vs : List Expr} (hk : GoodE T Φ X k ek) (hv : GoodE T Φ X v ev) (hr : GoodP T Φ X r ks vs) : GoodP T Φ X (.cons k v r) (some ek :: ks) (ev :: vs) := by
  obtain ⟨⟨h1, h2, h3⟩, hr⟩ := hr
  refine ⟨⟨by simpa using h1, by simp [h2], fun pos => pps_cons rE rE (h3 pos)⟩, fun g I F H st env σ Q Qr XP er S q kk => ?_⟩
  refine hk.then_ er S q fun g1 I1 H1 st1 x xv a1 b1 S1 er1 r1 q1 => ?_
  refine hv.then_ er1 S1 q1 fun g2 I2 H2 st2 y yv a2 b2 S2 er2 r2 q2 => ?_
  refine hr g2 I2 F H2 st2 env σ _ _ _ er2 S2 q2 fun g3 I3 H3 st3 kvs ps a3 b3 S3 rp q3 => ?_
  exact kk g3 I3 H3 st3 _ _ ((a1.trans a2).trans a3) ((b1.trans b2).trans b3) S3 (.cons (r1.mono (a2.trans a3) (b2.trans b3)) (r2.mono a3 b3) rp) q3
theorem good_dnil {pos : Pos} : GoodE T Φ X (.dic .nil) (.Dict [] [] pos) := by
  intro g I F H st env σ Q XP er S q
  have q : ([] : List (MV × MV)).all (fun kv => isKey kv.1) = true ∧ ([] : List (MV × MV)).length ≤ 15 ∧ Q (.ref st.length) (st ++ [.dic false []]) := q
  exact run_E pe_dnewK fun p hn => new_dict S .nil q.2.2 hn
theorem good_dic {ps : IP} {k0 : Option Expr} {ks : List (Option Expr)} {vs : List Expr} {pos : Pos} (h : GoodP T Φ X ps (k0 :: ks) vs) (h15 : (k0 :: ks).length ≤ 15) : GoodE T Φ X (.dic ps) (.Dict (k0 :: ks) vs pos) := by
  intro g I F H st env σ Q XP er S q
  obtain ⟨⟨h1, h2, h3⟩, hr⟩ := h
  refine run_E (pe_disp (h3 pos) h1 h2 (by simp) h15) ?_
  intro p hn
  refine hr g I (upd F p (.dK [])) (upd H p (.dK [])) st env σ _ _ _ (er.framed (fun _ _ z => nomatch z) (none_of_le S.fh hn)) (S.frame hn) q fun g1 I1 H1 st1 kvs pv a b S1 rp q1 => ?_
  obtain ⟨ky, hl, q1⟩ := q1
  obtain ⟨kk, rfl, rk⟩ := rp.keys ky
  refine ⟨S1.fh p _ upd_same, kk, rfl, by rw [rk.len]; exact hl, ?_⟩
  have S2 := S1.adopt (u := .dK (mergeK [] kk)) (mo := .dic false (kvs.foldl (fun acc kv => kPut kv.1 kv.2 acc) [])) dK_nofrz (none_of_le S.fh hn) ⟨_, upd_same, (rk.merge .nil).mono (gAdd_le S1.no) (LeH.refl _)⟩
  exact ⟨_, I1, .ref st1.length, _, a.trans (gAdd_le S1.no), b, S2, ⟨p, by unfold gAdd; rw [if_pos rfl], rfl⟩, q1⟩

/-! ### name = {..} on one line -/
theorem ps_setDc {i : Nat} {y : Str} {py : Pos} {ek ev tg iter : Expr} {scope : Scope} {own : List (Str × Nat)} {pos spos : Pos} {wi : TI} {g : TG} {tk tv : TE} (hc : X.calm = true) (hN : X.N.Nodup) (hy : X.N[i]? = some y) (hyl : X.env.scope.names.lookup y = some .local)
    (hsw : swapsWith (.DictComp ek ev [⟨tg, iter, [], 0⟩] scope pos) (some (.Name y py)) spos.line X.env = pure true) (hi : PI X tg iter wi) (ok : BlkOk X.N X.env.scope scope own)
    (hg : ∀ s H C cl fp, PG (Blk X scope s H C cl fp) tg g) (hk : ∀ s H C cl fp, PE (Blk X scope s H C cl fp) ek tk) (he : ∀ s H C cl fp, PE (Blk X scope s H C cl fp) ev tv) (hs : ∀ x, foldedSetIterable iter X.env x = pure x) :
    PS X (.Assign [.Name y py] (.DictComp ek ev [⟨tg, iter, [], 0⟩] scope pos) spos) (tAsg (tDc wi g tYes tk tv (own.map (·.2))) (gName i)) := by
  refine ⟨fun pins s σ H D I h => ?_⟩
  rw [exec_Assign_Name_used _ _ _ _ hsw]
  refine wpAny_bind (wpAny_standAt (wpAny_bind ?_))
  have h1 : tDc wi g tYes tk tv (own.map (·.2)) σ H (fun x H1 => gName i x σ H1 D.nx) := h
  show wpAny _ X.A (comprehension (.DictComp ek ev [⟨tg, iter, [], 0⟩] scope pos) scope X.env (firstIterPos [⟨tg, iter, [], 0⟩] pos) newDict false (eval iter X.env) (some (assign (.Name y py) X.env)) >>= fun _ => pure ()) _ _ s
  refine wpAny_bind (thn (dc_core (Qf := fun _ t => SP X pins D .next t) hc hN I hi ok hg (fun s H C cl fp => pts_nil) hk he hs h1 fun B Cc t m H' J q hn f => ?_) fun _ t z => wpAny_pure (wpAny_pure z))
  show wpAny _ _ (assign (.Name y py) X.env (.ref B)) _ _ _
  refine wpAny_assign_Name (store_ok2 (v := V.ref B) J hN hy (.inl hyl) rfl (fun t2 J2 ⟨a, sb, ha⟩ => ?_) (.inr hyl))
  obtain ⟨f0, f1, f2, f3, f4, f5⟩ := f
  have ne : Cc ≠ a := ha.elim (fun z => by rw [z]; exact f1) fun z e => f4 y a z e.symm
  exact ⟨m, hn.sameBut sb ne, fun h3 sb3 => ⟨_, H', J2.turned (t' := t2.toks) (fun b o hb e => (sb3.2 b hb).trans e) f0 f1 f3 f4 f5, q⟩⟩
theorem good_setDc (C : COk T L X) {i : Nat} {y : Str} {py spos : Pos} {ii : II} {ke ve : IE} {tg : ITg} {own : List (Str × Nat)} {ek ev tgE iter : Expr} {scope : Scope} {pos : Pos} (hy : X.N[i]? = some y) (hyl : X.env.scope.names.lookup y = some .local)
    (hsw : swapsWith (.DictComp ek ev [⟨tgE, iter, [], 0⟩] scope pos) (some (.Name y py)) spos.line X.env = pure true) (hi : GoodI T Φ X ii tgE iter) (ok : BlkOk X.N X.env.scope scope own)
    (ht : tgM X.N (relS scope X.env.scope) (fun x => scope.names.lookup x == some .cell) tg tgE = true) (hsl : ∀ i ∈ slots tg, i ∈ own.map (·.2)) (hk : ∀ s H C cl fp, GoodE T Φ (Blk X scope s H C cl fp) ke ek)
    (he : ∀ s H C cl fp, GoodE T Φ (Blk X scope s H C cl fp) ve ev) (hs : noSet iter = true) : GoodS T Φ X (.asg (.name i) (.dc ke ve tg ii (own.map (·.2)))) (.Assign [.Name y py] (.DictComp ek ev [⟨tgE, iter, [], 0⟩] scope pos) spos) := by
  intro g I F H st env σ D er S q
  have q : wpE T.P Φ (.dc ke ve tg ii (own.map (·.2))) env st (fun v st1 => D.nx (env.set i (some v)) st1) (fun c v st' => D.ex c v env st') := q
  refine run_S (ps_setDc (g := tgS X.K tg) (tk := AllE X scope ek) (tv := AllE X scope ev) C.nd_calm C.nd hy hyl hsw rI ok (fun s H0 Cc cl fp => tg_pg (X := Blk X scope s H0 Cc cl fp) C.nd C.nd_calm ht) (fun s H0 Cc cl fp => rAllE s H0 Cc cl fp) (fun s H0 Cc cl fp => rAllE s H0 Cc cl fp) (folded_ok hs _)) ?_
  refine (hi g I F H st env σ _ _ er.e S q).mono fun J H1 ⟨g1, I1, st1, J', a1, b1, S1, hJ, hlen, lp⟩ D0 hD0 => ?_
  obtain ⟨W, w0, w1⟩ := dc_loop (X := X) C.K hJ hlen S1 (er.rel.mono a1 b1) hsl hk he lp D0 hD0
  refine ⟨W, w0, fun i' m H2 w => ?_⟩
  rcases w1 i' m H2 w with ⟨z1, z2⟩ | z
  · obtain ⟨g', I', x, st', a, b, S', r, q'⟩ := heldD_new (Q := fun v st1 => D.nx (env.set i (some v)) st1) a1 b1 (none_of_le S1.fh hD0) z2
    exact .inl ⟨z1, g', I', _, st', a, b, S', (er.rel.mono a b).set i r, q'⟩
  · exact .inr z
theorem good_setDcD (C : COk T L X) {i : Nat} {y : Str} {py spos : Pos} {ii : II} {ke ve : IE} {tg : ITg} {own : List (Str × Nat)} {ek ev tgE iter : Expr} {scope : Scope} {pos : Pos} (hy : X.N[i]? = some y) (hyl : X.env.scope.names.lookup y = some .local)
    (hsw : swapsWith (.DictComp ek ev [⟨tgE, iter, [], 0⟩] scope pos) (some (.Name y py)) spos.line X.env = pure true) (hd : isDW ii) (hi : DictI T Φ X ii tgE iter) (ok : BlkOk X.N X.env.scope scope own)
    (ht : tgM X.N (relS scope X.env.scope) (fun x => scope.names.lookup x == some .cell) tg tgE = true) (hsl : ∀ i ∈ slots tg, i ∈ own.map (·.2)) (hk : ∀ s H C cl fp, GoodE T Φ (Blk X scope s H C cl fp) ke ek)
    (he : ∀ s H C cl fp, GoodE T Φ (Blk X scope s H C cl fp) ve ev) (hs : noSet iter = true) : GoodS T Φ X (.asg (.name i) (.dc ke ve tg ii (own.map (·.2)))) (.Assign [.Name y py] (.DictComp ek ev [⟨tgE, iter, [], 0⟩] scope pos) spos) := by
  intro g I F H st env σ D er S q
  have q : wpE T.P Φ (.dc ke ve tg ii (own.map (·.2))) env st (fun v st1 => D.nx (env.set i (some v)) st1) (fun c v st' => D.ex c v env st') := q
  refine run_S (ps_unl (ps_setDc (g := tgS X.K tg) (tk := AllE X scope ek) (tv := AllE X scope ev) C.nd_calm C.nd hy hyl hsw rI ok (fun s H0 Cc cl fp => tg_pg (X := Blk X scope s H0 Cc cl fp) C.nd C.nd_calm ht) (fun s H0 Cc cl fp => rAllE s H0 Cc cl fp) (fun s H0 Cc cl fp => rAllE s H0 Cc cl fp) (folded_ok hs _))) ?_
  have z := dc_goalD C hd hi hsl hk he er.e S q
  refine RunI.mono z fun J H1 h D0 hD0 => ?_
  obtain ⟨W, w0, w1⟩ := h D0 hD0
  refine ⟨W, w0, fun i' m H2 w => ?_⟩
  rcases w1 i' m H2 w with ⟨z1, d, od, u, z3, nf, g', I', x, st', a, b, S', r, q'⟩ | z
  · exact .inl ⟨z1, d, od, u, z3, nf, g', I', _, st', a, b, S', (er.rel.mono a b).set i r, q'⟩
  · exact .inr z
end
end Snd
-- SA
namespace Snd
open PySem L2 Mi

/-! ### try: .. except x as n: .., the exception kept behind it -/
def XO (cls : Value) (d : Option Addr) (p : Addr) : HO := .ext fun h => ∃ (oe : Obj) (vs : Array Value), h.get? p = some oe ∧ Zc cls d oe ∧ oe.data = .fields vs
theorem track_ok {X : Cx} {pins : List (Addr × Obj)} {σ : HS} {H : Hp} {s : Shared} {a : Addr} {oe : Obj} {cls : Value} {d : Option Addr} (I : Inv X ((a, oe) :: pins) σ H s) (n0 : X.s_0.heap.get? a = none) (np : ∀ p ∈ X.pn ++ pins, p.1 ≠ a)
    (hz : Zc cls d oe) (hf : ∃ vs, oe.data = .fields vs) : Inv X pins σ (upd H a (XO cls d a)) s := by
  obtain ⟨ha, hn, hl, hfs, hc⟩ := I.pin (a, oe) (List.mem_append_right _ List.mem_cons_self)
  have ne0 : ∀ b o, X.s_0.heap.get? b = some o → b ≠ a := fun b o e z => by subst z; rw [n0] at e; cases e
  have sm : ∀ b u, H b = some u → b ≠ a := fun b u e => ne_of_none e hn
  refine ⟨I.ok, I.os, I.bare, ⟨I.base.keep, I.base.slot, fun b o e n hx => by rw [upd_ne (ne0 b o e)]; exact I.base.free b o e n hx, I.base.there, fun b xs e => ?_, fun b o u e => ?_, fun b ps e => ?_⟩, I.loc, I.cell, ?_, fun y c e => ?_, fun p hp => ?_, fun b u e => ?_, I.len⟩
  · have z := I.base.tups b xs e
    rw [upd_ne (sm _ _ z)]; exact z
  · have z := I.base.frzs b o u e
    rw [upd_ne (sm _ _ z)]; exact z
  · obtain ⟨more, z⟩ := I.base.tbls b ps e
    exact ⟨more, by rw [upd_ne (sm _ _ z)]; exact z⟩
  · rw [upd_ne (fun z => hl z.symm)]; exact I.free
  · have ne : c ≠ a := fun z => by
      subst z
      obtain ⟨v, o, ho, hd⟩ := I.cell y c e
      have ha : s.heap.get? c = some oe := ha
      rw [ha] at ho; cases ho
      exact hc v hd
    rw [upd_ne ne]; exact I.freeC y c e
  · obtain ⟨z1, z2, z3, z4, z5⟩ := I.pin p (by
      rcases List.mem_append.mp hp with z | z
      · exact List.mem_append_left _ z
      · exact List.mem_append_right _ (List.mem_cons_of_mem _ z))
    exact ⟨z1, by rw [upd_ne (np p hp)]; exact z2, z3, z4, z5⟩
  · by_cases hb : b = a
    · subst hb
      rw [upd_same] at e
      cases e
      obtain ⟨vs, hv⟩ := hf
      exact ⟨⟨oe, vs, ha, hz, hv⟩, ⟨oe, ha⟩, fun _ _ ⟨o, v, q, r⟩ k => ⟨o, v, k _ q, r⟩⟩
    · rw [upd_ne hb] at e
      exact (I.hok b u e).stay (fun c v _ q => q) (fun c q => by rw [upd_ne (sm _ _ q)]; exact q) fun c xs q => by rw [upd_ne (sm _ _ q)]; exact q
/-- what the clause 'except x as n' wishes of an exception of the body; behind the suite the exception is known -/
def wKeep (K : PySem.W.Frag) (c : Value) (i : Nat) (ts : Addr → Value → Option Addr → TS) (Wout : WX) (D : L2.Ends) : WX := fun cls d σ H =>
  ∃ b, PySem.W.exmOne K cls c = some b ∧ (b = true → ∀ a, H a = none → ts a cls d
    { nx := fun σ' H' => H' a = none → D.nx (σ'.set i none) (upd H' a (XO cls d a)), rt := fun v H' => H' a = none → D.rt v (upd H' a (XO cls d a)), bk := fun σ' H' => H' a = none → D.bk (σ'.set i none) (upd H' a (XO cls d a)), ct := fun σ' H' => H' a = none → D.ct (σ'.set i none) (upd H' a (XO cls d a)) }
    (σ.set i (some (.ref a))) H) ∧ (b = false → Wout cls d σ H)
section
variable {X : Cx} {x n : Str} {c : Value} {i : Nat} {body suite : List Stmt} {b₀ : Stmt} {np pos pos' : Pos} {tb : WX → TS} {ts : Addr → Value → Option Addr → TS} {Wout : WX}
theorem ps_try_keep (hex : X.ex = []) (hs : X.stack = X.env :: X.outer) (hf : X.env.frame = some X.env.locals) (hN : X.N.Nodup) (hi : X.N[i]? = some n) (hln : X.env.kindOf n = some .local) (hc : Names X x c) (tk : Takes X Wout)
    (hb : ∀ (W : WX) (pn : List (Addr × Obj)) (xe : Value → Shared → Prop), Takes (X.tr pn xe) W → PassesOwn (model X.prog X.w) X.A X.env xe → PSs (X.tr pn xe) body (tb W))
    (hsu : ∀ (a : Addr) (oe : Obj) (cls : Value) (d : Option Addr) (pn : List (Addr × Obj)), Zc cls d oe → (∃ vs, oe.data = .fields vs) → PSs (X.suite a ((a, oe) :: pn)) (b₀ :: suite) (ts a cls d)) :
    PS X (.Try body [.ExceptHandler (some (.Name x np)) (some n) (b₀ :: suite) pos'] [] [] pos) (fun D σ H => tb (wKeep X.K c i ts Wout D) D σ H) := by
  refine ⟨fun pins s σ H D I h => ?_⟩
  have ok := I.ok
  have hfr : X.A.frames = some (X.env :: X.outer) := by rw [ok.frames, hs]
  have hloc : Loc X.env.scope n := .inl hln
  refine wpAny_Try_except ?_
  refine wpAny_mono ((hb (wKeep X.K c i ts Wout D) (X.pn ++ pins) (fun e s₁ => wpAny (model X.prog X.w) X.A (noteFrame e X.env) (fun _ s₂ => wpAny (model X.prog X.w) X.A (setFlight e none) (fun _ s₃ =>
    wpAny (model X.prog X.w) X.A (handleBy e X.env [.ExceptHandler (some (.Name x np)) (some n) (b₀ :: suite) pos']) (SP X pins D) X.xe s₃) X.xe s₂) X.xe s₁) (fun u s' xx => ?_) PassesOwn.looking).run [] s σ H D (I.toTry _) h) (fun f s1 hsp => ?_) (fun e s1 he => he)
  · -- the catch
    obtain ⟨a, B, sI, pins', σ', H', cls, d, rfl, J', nb, up, sky, na, os, ag, b, hb1, hyes, hno⟩ := xx
    have J : Inv X pins σ' H' sI := J'.ofTry ok
    have sky' : Sky B (X.env :: X.outer) a (Zc cls d) X.env.locals s'.heap := by rw [← hs]; exact sky
    show wpAny (model X.prog X.w) X.A (noteFrame (.ref a) X.env) _ _ _
    refine Sky.land Zc.steady hfr hf sky' fun h3 fl3 up3 => ?_
    have J3 : Inv X pins σ' H' { s' with heap := h3 } := J.landed nb fl3.1 (up.trans up3) os ag
    obtain ⟨oe3, vs3, he3, hz3, hd3⟩ := fl3.there
    have notFr : ∀ {h : Heap} {o : Obj} {vs : Array Value}, h.FunFrames B (X.env :: X.outer) → h.get? a = some o → o.data = .fields vs → a ∉ frs (X.env :: X.outer) := fun {h o vs} ff e dd hm => by
      obtain ⟨_, o', e', hnf⟩ := ff.mem hm
      rw [e] at e'; cases e'
      exact hnf _ dd
    have nfr := notFr fl3.2.2.1 he3 hd3
    have nL : a ≠ X.env.locals := fun z => nfr (List.mem_filterMap.mpr ⟨X.env, List.mem_cons_self, by rw [hf, z]⟩)
    have nF : a ∉ X.fs := fun hm => by
      obtain ⟨e, he, q⟩ := List.mem_filterMap.mp hm
      exact nfr (List.mem_filterMap.mpr ⟨e, List.mem_cons_of_mem _ he, q⟩)
    have nI : sI.heap.get? a = none := by
      cases e : sI.heap.get? a with
      | none => rfl
      | some o =>
        have z := nb a o e (by rw [hs]; exact nfr)
        rw [fl3.2.1] at z; cases z
    have n0 : X.s_0.heap.get? a = none := by
      cases e : X.s_0.heap.get? a with
      | none => rfl
      | some o =>
        obtain ⟨o', e'⟩ := J.base.there a o e (by rw [hex]; exact fun z => nomatch z)
        rw [nI] at e'; cases e'
    have npa : ∀ p ∈ X.pn ++ pins, p.1 ≠ a := fun p hp z => by
      have e := (J.pin p hp).1
      rw [z, nI] at e; cases e
    have S3 := J3.suite he3 hd3 na nL nF
    refine wpAny_handleBy_cons (codeAny_handlers_test ?_) (by intro q; cases q)
    have LT : PySem.W.Looks (model X.prog X.w) h3 (typeOf (.ref a)) cls := fun A Q E s k q => wpAny_typeOf_ref (k _ _ he3) (by rw [hz3.1]; exact q)
    have LM := PySem.W.exm_one (M := model X.prog X.w) (J3.kIn) LT hb1
    have test : ∀ {Q : Value → Shared → Prop} {E : Value → Shared → Prop}, Q c { s' with heap := h3 } → wpAny (model X.prog X.w) (X.A.mark (some (.ref a))) (eval (.Name x np) X.env) Q E { s' with heap := h3 } := fun {Q E} q => by
      obtain ⟨hg, hdbg, hm | ⟨hm, hv, hnn⟩⟩ := hc
      · exact ld_glob (X := X.suite a ((a, oe3) :: (X.pn ++ pins))) S3 hg hm q hdbg
      · exact ld_blt (X := X.suite a ((a, oe3) :: (X.pn ++ pins))) S3 hg hm hv q hnn hdbg
    refine test (LM.here ?_)
    cases b with
    | true =>
      refine codeAny_handlers_suite_as ?_
      refine HandSPX.lands_againZ fl3 fun h4 fl4 up4 => ?_
      have J4 : Inv X pins σ' H' { s' with heap := h4 } := J.landed nb fl4.1 ((up.trans up3).trans up4) os ag
      obtain ⟨oe4, vs4, he4, hz4, hd4⟩ := fl4.there
      have S4 := J4.suite he4 hd4 na nL nF
      refine store_ok (X := X.suite a ((a, oe4) :: (X.pn ++ pins))) (v := .ref a) S4 hN hi hloc rfl (fun s5 S5 => ?_) (.inr hln)
      refine wpAny_mono ((hsu a oe4 cls d (X.pn ++ pins) hz4 ⟨_, hd4⟩).run [] s5 _ H' _ S5 (hyes rfl a na)) (fun f s6 hsp => ?_) (fun _ _ z => False.elim z)
      have end_ : ∀ {σ6 : HS} {H6 : Hp} {Q : Shared → Prop}, Inv (X.suite a ((a, oe4) :: (X.pn ++ pins))) [] σ6 H6 s6 → (H6 a = none → ∀ s7, Inv X pins (σ6.set i none) (upd H6 a (XO cls d a)) s7 → Q s7) →
          wpAny (model X.prog X.w) X.A (do bindName X.env n .none; unbindBehindTheSuite X.env n pos') (fun _ s7 => Q s7) X.xe s6 := fun {σ6 H6 Q} S6 hq => by
        have S7 : Inv X ((a, oe4) :: pins) σ6 H6 s6 := ⟨ok, S6.os, S6.bare, S6.base, S6.loc, S6.cell, S6.free, S6.freeC, fun p hp => S6.pin p (by
          rw [List.append_nil]
          rcases List.mem_append.mp hp with z | z
          · exact List.mem_cons_of_mem _ (List.mem_append_left _ z)
          · rcases List.mem_cons.mp z with z | z
            · exact z ▸ List.mem_cons_self
            · exact List.mem_cons_of_mem _ (List.mem_append_right _ z)), S6.hok, S6.len⟩
        refine gone_ok S7 hN hi hln fun s7 J7 => ?_
        exact hq (J7.pin (a, oe4) (List.mem_append_right _ List.mem_cons_self)).2.1 s7 (track_ok J7 n0 npa hz4 ⟨_, hd4⟩)
      cases f with
      | next =>
        obtain ⟨σ6, H6, S6, q6⟩ := hsp
        exact end_ S6 fun hn s7 J7 => ⟨_, _, J7, q6 hn⟩
      | brk =>
        obtain ⟨σ6, H6, S6, q6⟩ := hsp
        exact end_ S6 fun hn s7 J7 => ⟨_, _, J7, q6 hn⟩
      | cont =>
        obtain ⟨σ6, H6, S6, q6⟩ := hsp
        exact end_ S6 fun hn s7 J7 => ⟨_, _, J7, q6 hn⟩
      | ret u =>
        obtain ⟨v6, σ6, H6, S6, r6, q6⟩ := hsp
        exact end_ S6 fun hn s7 J7 => ⟨_, _, _, J7, r6, q6 hn⟩
    | false =>
      show wpAny _ X.A (handleBy (.ref a) X.env []) _ _ _
      refine wpAny_handleBy_nil ?_
      obtain ⟨k1, k2, k3, oe, vs, T, oT, ts', he, hz, hd, h1, hr⟩ := id fl3
      unfold PySem.passOn
      refine wpAny_bind (wpAny_field he hd h1 ?_)
      rw [if_neg (show ¬ ((Value.ref T == Value.none) = true) from by simp)]
      have fin : wpAny (model X.prog X.w) X.A (setFlight (.ref a) X.env.frame) (fun _ s4 => wpAny (model X.prog X.w) X.A (throw (.ref a) : Sem Flow) (SP X pins D) X.xe s4) X.xe { s' with heap := h3 } := by
        rw [hf]
        refine HandSPX.setFlight_upZ fl3 fun h4 hh4 up4 => wpAny_throw (tk _ _ ?_)
        exact ⟨a, B, sI, pins, σ', H', cls, d, rfl, J, nb, (up.trans up3).trans up4, .inr (.inr (by rw [hs]; exact hh4)), na, os, ag, hno rfl⟩
      first
        | exact wpAny_bind (wpAny_pure (wpAny_bind fin))
        | exact wpAny_bind fin
  · cases f with
    | next =>
      obtain ⟨σ', H', J', q⟩ := hsp
      exact wpAny_execs_nil ⟨σ', H', J'.ofTry ok, q⟩
    | brk =>
      obtain ⟨σ', H', J', q⟩ := hsp
      exact ⟨σ', H', J'.ofTry ok, q⟩
    | cont =>
      obtain ⟨σ', H', J', q⟩ := hsp
      exact ⟨σ', H', J'.ofTry ok, q⟩
    | ret u =>
      obtain ⟨v, σ', H', J', r, q⟩ := hsp
      exact ⟨v, σ', H', J'.ofTry ok, r, q⟩
end
end Snd
-- SB
namespace Snd
open PySem L2 Mi

/-! ### f(lambda: a) -/
section
open PySem.Spec PyProof.Rows
variable {X : Cx} {pins : List (Addr × Obj)} {σ : L2.St} {H HZ : Hp} {s s1 : Shared}
/-- x(), in the def that got the lambda: Z is that def's context, entered at s -/
theorem pe_actW {CXg : CXT} {Eg : XK} {Ng : List Str} {qg : Str} {sg : Scope} {g f c' : Addr} {cdg pm ctv : Value} {params : Arguments} {body : Expr} {scope : Scope} {k i : Nat} {a : Str} {pn : List (Addr × Obj)} {xe : Value → Shared → Prop} {W : WX} {tb : XK → TE} {p1 p2 : Pos}
    (I : Inv X pins σ H s) (L : LamX.LamS X.env.scope scope) (hf : s.heap.get? f = some (PySem.W.kla_obj "<lambda>" (X.env.qual ++ "<lambda>") params body scope (cloFrom X.env.cells scope.names []) pm c' ctv)) (hfn : H f = none) (hfr : f ∉ frs X.stack)
    (hbind : bindArgs (PySem.W.kla_fn "<lambda>" (X.env.qual ++ "<lambda>") params body scope (cloFrom X.env.cells scope.names []) pm (.ref c') ctv) ⟨[], []⟩ = pure [])
    (tk : Takes ((cxOf CXg X.prog X.w X.K X.mg X.base Ng qg sg g cdg X.A X.stack s H Eg).tr pn xe) W) (hr : Room (k + 1) (X.A.deeper (envOfC qg sg s.heap.objs.size g cdg)))
    (hbody : ∀ (A : Around) (outer : List PySem.Env) (s : Shared) (H : Hp) (E : XK), A.guards = X.A.guards → Room k (A.deeper (LamX.lamEnv X scope s.heap.objs.size f c')) → PE (LamX.lamCx X A outer s H E scope f c') body (tb E))
    (hN : Ng[i]? = some a) (hv : Vis sg a) (hd : (a == ("__debug__" : Str)) = false := by decide) (hcd : (a == ("__classdict__" : Str)) = false := by decide) :
    PE ((cxOf CXg X.prog X.w X.K X.mg X.base Ng qg sg g cdg X.A X.stack s H Eg).tr pn xe) (.Call (.Name a p1) [] [] p2)
      (fun σZ HZ Q => σZ[i]? = some (some (.ref f)) ∧ HZ c' = some (LamX.CodeO c' (X.env.qual ++ "<lambda>")) ∧ ∃ E : XK, (∀ cls d H', E cls d H' → W cls d σZ H') ∧ tb E σ HZ Q) := by
  refine ⟨fun pinsZ sZ σZ HZ Q IZ h => ?_⟩
  obtain ⟨hs, hc, E, hW, ht⟩ := h
  refine wpAny_Call_Name_kw (thn ((pe_var (pos := p1) (i := i) hN hv hd hcd).run pinsZ sZ σZ HZ (fun v H1 => v = .ref f ∧ H1 = HZ) IZ ⟨.ref f, hs, rfl, rfl⟩) fun u s1 ⟨v, H1, I1, r1, q1⟩ => ?_)
  obtain ⟨ev, eH⟩ := q1
  subst ev
  rw [eH] at I1
  obtain rfl : u = Value.ref f := r1
  have of1 : s1.heap.get? f = some (PySem.W.kla_obj "<lambda>" (X.env.qual ++ "<lambda>") params body scope (cloFrom X.env.cells scope.names []) pm c' ctv) := I1.base.keep f _ hf hfn hfr (fun z => nomatch (show f ∈ ([] : List Addr) from z))
  refine PySem.W.callWith_F0 ⟨_, _, _, _, of1⟩ ?_
  have un : Un (frs X.stack) [] H HZ s.heap s1.heap := I1.base
  obtain ⟨⟨oc, vs, t, hoc, hdc, hvc⟩, _, _⟩ := I1.hok c' _ hc
  have rc : codeAny (model X.prog X.w) (X.A.deeper (envOfC qg sg s.heap.objs.size g cdg)) (.call (.ref f) ⟨[], []⟩) (CR (L2.CX X.prog X.w) (envOfC qg sg s.heap.objs.size g cdg :: X.stack) X.prog X.w HZ s1 Q E) s1 := by
    refine PySem.W.kla_callFunE hr.depth of1 rfl L.co L.gen rfl ⟨c', oc, vs, t, rfl, hoc, hdc, hvc⟩ ?_
    rw [hbind]
    refine wpAny_pure (wpAny_newFunctionEnv (fun y hy => (L.own y hy).2) (fun y hy => absurd hy (by simp)) (fun h₁ hns hsb => ⟨I1.nolimit.fresh _ hsb, ?_⟩) L.kind)
    show codeAny _ _ (.expr body (LamX.lamEnv X scope s1.heap.objs.size f c')) _ _
    have kp : ∀ b o, s1.heap.get? b = some o → h₁.get? b = some o := fun b o e => hsb.extBut b o (Nat.ne_of_lt (Heap.lt_size e)) (Heap.get?_push_of_some _ e)
    have J : Inv (LamX.lamCx X (X.A.deeper (envOfC qg sg s.heap.objs.size g cdg)) (envOfC qg sg s.heap.objs.size g cdg :: X.stack) s1 HZ E scope f c') [] σ HZ { s1 with heap := h₁, toks := s1.toks + ([] : List (Str × Value)).length } :=
      LamX.lam_start2 I L I1.env0 hr.hd un hns kp
    refine PySem.W.kla_codeExpr (wpAny_mono ((hbody (X.A.deeper (envOfC qg sg s.heap.objs.size g cdg)) _ s1 HZ E rfl (hr.deeper _)).run [] _ _ HZ Q J ht) (fun v s' hq => ?_) fun e s' hq => hq)
    obtain ⟨w', H', J', rv, q⟩ := hq
    exact ⟨w', H', J'.os, J'.bare, J'.base, J'.hok, rv, q⟩
  refine wpAny_call (codeAny_mono rc fun r s' hq => ?_)
  cases r with
  | error e => exact tk e s' (XE.of_call I1 (fun cls d H' h => hW cls d H' h) hq)
  | ok fl =>
    cases fl with
    | ret u => exact I1.after hq
    | next => exact False.elim hq
    | brk => exact False.elim hq
    | cont => exact False.elim hq

def GivesW (X : Cx) (Ng : List Str) (x : Str) (sg : Scope) (g : Addr) (cdg : Value) (bg : List Stmt) (a : Str) (q : Str) (TT : (XK → Hp → VK → Prop) → Hp → VK → Prop) : Prop :=
  ∀ (f c' : Addr) (s : Shared) (H : Hp) (Q : VK) (tl : XK → Hp → VK → Prop),
    (∀ (W : WX) (pn : List (Addr × Obj)) (xe : Value → Shared → Prop) (p1 p2 : Pos), Takes ((cxOf C8.CX0 X.prog X.w X.K X.mg X.base Ng x sg g cdg X.A X.stack s H C8.E0).tr pn xe) W →
      PE ((cxOf C8.CX0 X.prog X.w X.K X.mg X.base Ng x sg g cdg X.A X.stack s H C8.E0).tr pn xe) (.Call (.Name a p1) [] [] p2) (fun σZ HZ Q => σZ[0]? = some (some (.ref f)) ∧ HZ c' = some (LamX.CodeO c' q) ∧ ∃ E : XK, (∀ cls d H', E cls d H' → W cls d σZ H') ∧ tl E HZ Q)) →
    H c' = some (LamX.CodeO c' q) → TT tl H Q →
    ∃ t, PSs (cxOf C8.CX0 X.prog X.w X.K X.mg X.base Ng x sg g cdg X.A X.stack s H C8.E0).nox bg t ∧ t { nx := fun _ H' => Q .non H', rt := Q } (L2.start Ng [.ref f]) H
def tLamW (T : List (Addr × Str)) (TT : (XK → Hp → VK → Prop) → Hp → VK → Prop) (t : XK → TE) : TE := fun σ H Q => LamX.Tabs T H ∧ ∀ H1, LamX.ExtN H H1 → LamX.Tabs T H1 → TT (fun E H' Q' => t E σ H' Q') H1 Q
end
section
open PySem.Spec PyProof.Rows
variable {X : Cx}
/-- x(lambda: body) -/
theorem pe_lamW {T : List (Addr × Str)} {TT : (XK → Hp → VK → Prop) → Hp → VK → Prop} {x a : Str} {g c P : Addr} {k : Nat} {pg : Arguments} {bg : List Stmt} {sg : Scope} {dV kV doc pm cdv ct oc : Value} {an od : Option Addr} {osl : Array (Option Value)} {Ng : List Str}
    {params : Arguments} {body : Expr} {scope : Scope} {t : XK → TE} {p lpos pos : Pos} (hg : Gl X x) (hm : X.mg x = some (.ref g)) (hk : PySem.W.keepIn X.K (.ref g) = true)
    (lk : X.K.lookup g = some ⟨oc, od, .func (PySem.W.fnOf x x pg bg sg dV kV doc pm an cdv ct), osl⟩) (hcg : PySem.W.codeIn X.K cdv x = true) (hb : L2.Binds X.K (PySem.W.fnOf x x pg bg sg dV kV doc pm an cdv ct) [a] []) (Sg : FnScope Ng [a] sg) (hNg : Ng[0]? = some a) (hva : Vis sg a)
    (hG : GivesW X Ng x sg g cdv bg a (X.env.qual ++ "<lambda>") TT)
    (TB : LamX.TabB X.base X.mg c P) (hcode : X.env.code = .ref c) (hmT : (P, X.env.qual ++ "<lambda>") ∈ T) (hu : ∀ p ∈ T, p.1 = P → p.2 = X.env.qual ++ "<lambda>") (hr : Room (k + 2) X.A) (L : LamX.LamS X.env.scope scope) (hdef : defaultsOf params X.env = ([], []))
    (hbind : ∀ (q : Str) (cl : List (Str × Addr)) (pm cv ctv : Value), bindArgs (PySem.W.kla_fn "<lambda>" q params body scope cl pm cv ctv) ⟨[], []⟩ = pure [])
    (hbody : ∀ (A : Around) (outer : List PySem.Env) (s : Shared) (H : Hp) (E : XK) (f c' : Addr), A.guards = X.A.guards → Room k (A.deeper (LamX.lamEnv X scope s.heap.objs.size f c')) → PE (LamX.lamCx X A outer s H E scope f c') body (t E))
    (hdb : (x == ("__debug__" : Str)) = false := by decide) (hd : (a == ("__debug__" : Str)) = false := by decide) (hcd : (a == ("__classdict__" : Str)) = false := by decide) :
    PE X (.Call (.Name x p) [.Lambda params body scope lpos] [] pos) (tLamW T TT t) := by
  refine ⟨fun pins s σ H Q I h => ?_⟩
  obtain ⟨hT, h⟩ := h
  refine wpAny_Call_Name_kw (ld_glob I hg hm ?_ hdb)
  refine PySem.W.callWith_K (h₀ := X.base) I.ok.mod.kin hk ?_ (by rfl) (by rfl)
  show wpAny _ _ (spliced ((false, eval (.Lambda params body scope lpos) X.env) :: backTo pos (starEach [] X.env))) _ _ s
  refine Calls.spliced_cons (LamX.lam_make2 I TB hcode hmT hu hT hdef (L.has I.ok) fun f c' pm' ctv H1 s' I1 eN T1 hf hfn hfr hco => ?_)
  refine Calls.spliced_nil ⟨I1.kIn, ?_⟩
  have rc : codeAny (model X.prog X.w) X.A (.call (.ref g) ⟨[.ref f], []⟩) (CR C8.CX0 X.stack X.prog X.w H1 s' Q C8.E0) s' := by
    refine LamX.run_ofS (N := Ng) (ps := [a]) (us := [.ref f]) (vs := [.ref f]) lk hcg Sg hr I1.env0 (hb s' [.ref f] I1.kIn rfl) (.cons rfl .nil) rfl fun hr' => ?_
    obtain ⟨t', ht', hq'⟩ := hG f c' s' H1 Q (fun E H' Q' => t E σ H' Q') (fun W pn xe p1 p2 tk => pe_actW (i := 0) I1 L hf hfn hfr (hbind _ _ _ _ _) tk hr' (fun A outer s H E hgu hr2 => hbody A outer s H E f c' hgu hr2) hNg hva hd hcd) hco (h H1 eN T1)
    exact ⟨t', ht'.nox, hq'⟩
  refine wpAny_call (codeAny_mono rc fun r s2 hq => ?_)
  cases r with
  | error e => exact (show False from hq).elim
  | ok fl =>
    cases fl with
    | ret u => exact I1.after hq
    | next => exact False.elim hq
    | brk => exact False.elim hq
    | cont => exact False.elim hq

end
end Snd
-- SC
namespace Snd
open PySem L2 Mi

def THr (K : PySem.W.Frag) (CS : Addr) : (XK → Hp → VK → Prop) → Hp → VK → Prop := fun tl H Q => ∀ p0, H p0 = none →
  tl (fun cls d H' => PySem.W.exmOne K cls (.ref CS) = some true ∧ ∀ a, H' a = none → ∀ p, upd H' a (XO cls d a) p = none → Q (.ref p) (upd (upd H' a (XO cls d a)) p (.tup [.ref a, .non])))
    (upd H p0 (.tup [.non, .non])) (fun v H' => ∀ p, H' p = none → Q (.ref p) (upd H' p (.tup [.non, v])))
theorem swN_none (sc : Scope) (a b : Expr) (j k : Nat) (p q : Pos) : swN sc [a, b] [.Constant .none j p, .Constant .none k q] = some none := by
  unfold swN
  split
  · rfl
  · split
    · rfl
    · dsimp only
      split
      · rfl
      · rw [if_pos (show ([Expr.Constant .none j p, Expr.Constant .none k q].all (foldedForSure 8)) = true from rfl)]
theorem heard_gives {X : Cx} {x look caught back e err q : Str} {sg : Scope} {g CS : Addr} {cdg : Value} {bg : List Stmt} (hsk : sg.kind = .function) (nd : [look, caught, back, err].Nodup) (hB : hrdB sg look caught back e err bg = true) (hme : X.mg e = some (.ref CS)) (hde : (e == ("__debug__" : Str)) = false) (hdb : ∀ y ∈ [look, caught, back, err], (y == ("__debug__" : Str)) = false ∧ (y == ("__classdict__" : Str)) = false) :
    GivesW X [look, caught, back, err] x sg g cdg bg look q (THr X.K CS) := by
  unfold hrdB at hB
  split at hB
  case h_2 => exact absurd hB Bool.false_ne_true
  rename_i c1 cp1 b1 bp1 k1 tp1 j1 np1 j2 np2 k2 tp2 sp1 b2 bp2 l1 lp1 clp ap2 e1 ep1 n1 c2 cp2 n2 np3 ap3 hp1 tp3 c3 cp3 b3 bp3 k3 tp4 rp
  simp only [Bool.and_eq_true, decide_eq_true_eq] at hB
  obtain ⟨⟨⟨⟨⟨⟨⟨⟨⟨⟨⟨⟨⟨⟨a1, a2⟩, a3⟩, a4⟩, a5⟩, a6⟩, a7⟩, a8⟩, a9⟩, a10⟩, hl⟩, hc⟩, hb⟩, hr⟩, he⟩ := hB
  subst c1 c2 c3 b1 b2 b3 l1 e1 n1 n2
  intro f c' s H Q tl act hco h
  have d0 := hdb look (by simp)
  have d1 := hdb caught (by simp)
  have d2 := hdb back (by simp)
  have d3 := hdb err (by simp)
  have hgl : Gl (cxOf C8.CX0 X.prog X.w X.K X.mg X.base [look, caught, back, err] x sg g cdg X.A X.stack s H C8.E0).nox e := he
  refine ⟨_, pss_cons (X := (cxOf C8.CX0 X.prog X.w X.K X.mg X.base [look, caught, back, err] x sg g cdg X.A X.stack s H C8.E0).nox)
    (ps_asg (pe_tup (pa_cons pe_non (pa_cons pe_non pa_nil))) (pg_tup rfl (pgs_cons (pg_name (i := 1) nd rfl (.inl hc)) (pgs_cons (pg_name (i := 2) nd rfl (.inl hb)) pgs_nil))) rfl (swN_ok hsk (swN_none _ _ _ _ _ _ _)))
    (pss_cons (ps_try_keep (i := 3) (c := .ref CS) (tb := fun W D σ H => σ[0]? = some (some (.ref f)) ∧ H c' = some (LamX.CodeO c' q) ∧ ∃ (E : XK) (R : VK), (∀ cls d H', E cls d H' → W cls d σ H') ∧ tl E H R ∧ ∀ v H1, R v H1 → D.nx (σ.set 2 (some v)) H1)
      rfl rfl rfl nd rfl hr ⟨hgl, hde, .inl hme⟩ LamX.takes0 (fun W pn xe tk _ => ?_) (fun a oe cls d pn _ _ => pss_one (ps_set (i := 1) nd rfl (.inl hc) (pe_var (i := 3) rfl (.inl hr) d3.1 d3.2))))
      (pss_one (ps_ret (pe_tup (pa_cons (pe_var (i := 1) rfl (.inl hc) d1.1 d1.2) (pa_cons (pe_var (i := 2) rfl (.inl hb) d2.1 d2.2) pa_nil)))))), ?_⟩
  · refine ⟨fun pins s' σ H' D I h' => ?_⟩
    obtain ⟨h1, h2, E, R, hW, ht, hR⟩ := h'
    have hp := act W pn xe lp1 clp tk
    have hrun : RunE _ (.Call (.Name look lp1) [] [] clp) σ H' R := fun pins s I => hp.run pins s σ H' R I ⟨h1, h2, E, hW, ht⟩
    have hq := pss_one (ps_set (X := ((cxOf C8.CX0 X.prog X.w X.K X.mg X.base [look, caught, back, err] x sg g cdg X.A X.stack s H C8.E0).tr pn xe)) (i := 2) (pos := ap2) (pos' := bp2) nd rfl (.inl hb) (rE (e := .Call (.Name look lp1) [] [] clp)))
    exact hq.run pins s' σ H' D I (hrun.mono fun v H1 r => hR v H1 r)
  · have hs2 : 2 ≤ sizeLine := by rw [sizeLine_eq]; omega
    refine ⟨hs2, fun p0 hp0 => ⟨p0, [.non, .non], rfl, SqT.of upd_same, rfl, .non, [.non], rfl, .non, [], rfl, rfl, ?_⟩⟩
    refine ⟨rfl, by rw [upd_ne (ne_of_none hco hp0)]; exact hco, _, _, ?_, h p0 hp0, ?_⟩
    · intro cls d H' ⟨e1, e2⟩
      refine ⟨true, e1, fun _ a ha => ?_, fun z => nomatch z⟩
      exact ⟨.ref a, rfl, fun hn => ⟨.ref a, rfl, .non, rfl, hs2, fun p hp => e2 a ha p hp⟩⟩
    · intro v H1 r
      exact ⟨.non, rfl, v, rfl, hs2, fun p hp => r p hp⟩

theorem Sim.extN {K : PySem.W.Frag} {cl : Kl} {g : Mu} {I F H H1 : Hp} {st : Sto} (S : Snd.Sim K cl g I F H st) (e : LamX.ExtN H H1) (t : LamX.Tabs cl.tabs H1) : Snd.Sim K cl g I F H1 st where
  obj := fun a o h => by
    obtain ⟨p, h1, h2⟩ := S.obj a o h
    refine ⟨p, h1, h2.mono (LeM.refl _) (LeH.refl _) ?_ rfl⟩
    have go : ∀ u, H p = some u → noT u = true → H1 p = H p := fun u q n => by rw [q]; exact e p u q fun ps z => by subst z; cases n
    cases o with
    | lst xs => obtain ⟨vs, q, _⟩ := h2; exact go _ q rfl
    | dic lk kvs =>
      cases lk with
      | false => obtain ⟨vs, q, _⟩ := h2; exact go _ q rfl
      | true => obtain ⟨_, vs, q, _⟩ := h2; exact go _ q rfl
    | ins c fs => obtain ⟨_, _, _, _, q, _⟩ := h2; exact go _ q rfl
    | exc c v => obtain ⟨_, _, _, _, q, _⟩ := h2; exact go _ q rfl
    | bex => exact go _ h2 rfl
  dom := S.dom
  inj := S.inj
  ih := fun b u h => e b u (S.ih b u h) fun ps z => by have q := S.ti b u h; subst z; cases q
  im := S.im
  fh := fun b u h => e b u (S.fh b u h) fun ps z => by have q := S.tf b u h; subst z; cases q
  fm := S.fm
  fi := S.fi
  tb := t
  ti := S.ti
  tf := S.tf
section
variable {T : Tab} {Φ : Phi} {L : Nat} {X : Cx}
/-- the caught exception is put to the store -/
theorem caught_sim {g : Mu} {I F H : Hp} {st : Sto} {c : String} {v : MV} {cls : Value} {d : Option Addr} {a : Addr} (S : T.Sim g I F H st) (x : ExR T g I c v cls d) (ha : H a = none) :
    T.Sim (gAdd g st.length a) I F (upd H a (XO cls d a)) (st ++ [.exc c v]) := by
  obtain ⟨C, dd, w, h1, rfl, rfl, h2, h3⟩ := x
  exact S.new ha ⟨C, dd, w, h1, upd_same, h2, h3.mono (gAdd_le S.no) (LeH.refl _)⟩
theorem good_heard (TO : TOk T) (C : COk T L X) (Lm : LamOk T L X) {f : Str} (hf : T.G.hrd.contains f = true) (hg : Gl X f) (hdb : (f == ("__debug__" : Str)) = false) {a : IE} {body : Expr} {params : Arguments} {scope : Scope} {p lpos pos : Pos} (hpa : noArgs params = true) (LS : LamX.LamS X.env.scope scope)
    (hbody : ∀ (A : Around) (outer : List PySem.Env) (s : Shared) (H : Hp) (E : XK) (f' c' : Addr), A.guards = X.A.guards → Room (L + 2) (A.deeper (LamX.lamEnv X scope s.heap.objs.size f' c')) → GoodE T Φ (LamX.lamCx X A outer s H E scope f' c') a body) {fS : String} :
    GoodE T Φ X (.heard fS a) (.Call (.Name f p) [.Lambda params body scope lpos] [] pos) := by
  intro g I F H st env σ Q XP er S q
  obtain ⟨ga, CS, stm, fd, look, caught, back, e, err, hm, Fu, Sc, hb, hB, hde, hdn, hvl, hme, hex⟩ := TO.hrd f hf
  obtain ⟨oc, od, kV, doc, pm, an, cdv, ct, osl, rfl, lk, hcd⟩ := Fu.ex
  obtain ⟨cc, P, hcode, TB, hmT, hu, hr⟩ := Lm
  obtain rfl := noArgs_eq hpa
  have KX := C.K
  have hla : (look == ("__debug__" : Str)) = false ∧ (look == ("__classdict__" : Str)) = false := hdn look (by simp)
  refine run_E (pe_lamW (T := T.cl.tabs) (TT := THr X.K CS) (k := L + 2) (Ng := [look, caught, back, err]) (a := look) (t := fun E σ H Q => ∀ (A : Around) (outer : List PySem.Env) (s : Shared) (H0 : Hp) (f' c' : Addr), A.guards = X.A.guards → Room (L + 2) (A.deeper (LamX.lamEnv X scope s.heap.objs.size f' c')) → RunE (LamX.lamCx X A outer s H0 E scope f' c') body σ H Q)
    hg (by rw [C.mg]; exact hm) (by rw [KX]; exact Fu.kp) (by rw [KX]; exact lk) (by rw [KX]; exact hcd) (by rw [KX]; exact hb) Sc rfl hvl (heard_gives Sc.kind Sc.nd hB (by rw [C.mg]; exact hme) hde hdn) TB hcode hmT hu hr LS rfl (fun _ _ _ _ _ => rfl) (fun A outer s H0 E f' c' hgu hr' => ⟨fun pins s' σ' H' Q' I' h' => h' A outer s H0 f' c' hgu hr' pins s' I'⟩) hdb hla.1 hla.2) ?_
  · refine ⟨S.tb, fun H1 e1 t1 p0 hp0 A outer s H0 f' c' hgu hr' => ?_⟩
    have S1 := S.extN e1 t1
    have S2 := S1.frozen (u := .tup [.non, .non]) hp0
    have er2 : ER T (LamX.lamCx X A outer s H0 (fun cls d H' => PySem.W.exmOne X.K cls (.ref CS) = some true ∧ ∀ a, H' a = none → ∀ p, upd H' a (XO cls d a) p = none → T.QV g I F Q (.ref p) (upd (upd H' a (XO cls d a)) p (.tup [.ref a, .non]))) scope f' c')
        (fun c v st1 => Q (.tup [.ref st1.length, .non]) (st1 ++ [.exc c v])) g (upd I p0 (.tup [.non, .non])) F env σ := by
      refine ⟨er.rel.mono (LeM.refl _) (fresh_le S1.ih hp0), (takes_of rfl rfl rfl rfl).imp fun cls d σ' H' ⟨g', I', env', c, v, st', z1, z2, S3, _, xr, _, qx⟩ => ?_⟩
      obtain ⟨C', dd, w, hx, rfl, rfl, h2, h3⟩ := id xr
      refine ⟨by rw [KX]; exact hex _ _ hx, fun a' ha' p' hp' => ?_⟩
      have S4 := caught_sim S3 xr ha'
      have r4 : RepVs T.K (gAdd g' st'.length a') I' [.ref st'.length, .non] [.ref a', .non] := ⟨.ref a', [.non], rfl, ⟨a', by unfold gAdd; rw [if_pos rfl], rfl⟩, .non, [], rfl, rfl, rfl⟩
      exact QV.from_ (z1.trans (gAdd_le S3.no)) ((fresh_le S1.ih hp0).trans z2) (new_tup S4 r4 qx hp')
    have z := hbody A outer s H0 _ f' c' hgu hr' g (upd I p0 (.tup [.non, .non])) F _ st env σ _ _ er2 S2 q
    refine z.mono fun v H' ⟨g', I', x, st', z1, z2, S3, rx, q3⟩ p' hp' => ?_
    have r3 : RepVs T.K g' I' [.non, x] [.non, v] := ⟨.non, [v], rfl, rfl, v, [], rfl, rx, rfl⟩
    exact QV.from_ z1 ((fresh_le S1.ih hp0).trans z2) (new_tup S3 r3 q3 hp')
end
end Snd
-- SD
namespace Snd
open PySem L2 Mi

/-! ### an own exception's __init__: super().__init__(x); self.f = x -/
section
open PySem.W PySem.Calls PyProof.Rows PyProof.V PySem.Spec
variable {prog : Program} {w : World} {A : Around} {s : Shared} {K : PySem.W.Frag}
/-- the bound __init__ called -/
theorem call_mw {E : Value → Shared → Prop} {u e t0 : Addr} {C : Addr} {rest : List Value} {Q : Value → Shared → Prop} (T : OexC K C) (X : K.In s.heap) (he : s.heap.get? e = some (PySem.HandSPX.excO C t0)) (hu : s.heap.get? u = some (kxs_mw "ValueError.__init__" e)) (hrest : rest.length ≤ sizeLine)
    (hq : ∀ h' t1, (∀ b o, b ≠ e → s.heap.get? b = some o → h'.get? b = some o) → h'.get? e = some (PySem.HandSPX.excO C t1) → Q .none { s with heap := h' }) :
    wpAny (model prog w) A (call (.ref u) rest) Q E s := by
  obtain ⟨nm, q, N, bs, bm, sn, sub, ab, col, dd, k0, k1, k2, k3, k5, hC, hbm⟩ := T.cls
  have hC := X _ _ hC
  obtain ⟨hh, g, d, tk, os⟩ := s
  refine wpAny_call (codeAny_of_tree ?_)
  show wpAny _ A.in1 (callAny (.ref u) ⟨rest, []⟩) _ _ _
  simp only [callAny]
  refine wpAny_bind (wpAny_load hu ?_)
  simp only [kxs_mw, show (Value.type "method-wrapper" == Value.type "method" || Value.type "method-wrapper" == Value.type "builtin_function_or_method" || Value.type "method-wrapper" == Value.type "method-wrapper") = true by decide, if_true]
  refine KFB.if_so (by decide) ?_
  refine wpAny_bind (check_bound_init F.excBase_ValueError.toExcCallFacts hC he rfl ?_)
  refine wpAny_bind (wpAny_pure (wpAny_pure ?_))
  refine ⟨plainId_quiet F.excBase_ValueError.init.plain _, codeAny_builtin F.excBase_ValueError.initEntry ?_⟩
  exact exc_init_tree (cls := .ref C) (t0 := t0) (dv := none) (c2 := .none) (c3 := .none) (b4 := .bool false) he hrest fun h' k e' _ => hq h' _ k e'

theorem supCall_of {o : Expr} {m : Str} {apos pos : Pos} {es : List Expr} {env : PySem.Env} (hl : (apos.endLine == pos.line) = true) (hall : (backTo pos (starEach es env)).all (fun x => !x.1) = true) (hn : es.length < 20) :
    eval (.Call (.Attribute o m apos) es [] pos) env = (do
      let ov ← attributeBase o m env (eval o env)
      standAt apos.atName
      let (f, first) ← holding [ov] (getMethod ov m (do return (← importBound o env).getD true))
      callWith pos f first (backTo pos (starEach es env)) []) := by
  have hf : methodCallForm (es.length + ([] : List Keyword).length) (backTo pos (starEach es env)) (backToKw pos (keywordEach [] env)) = true := by
    unfold methodCallForm
    rw [hall]
    show (true && true && decide (es.length + 0 + 0 < 30)) = true
    simp; omega
  rw [eval]
  unfold methodCall calleeOf methodCallPos
  rw [hf, hl]
  rfl
theorem init_run {R : Result → Shared → Prop} {name qual sn vn f : Str} {params : Arguments} {body : List Stmt} {scope : Scope} {kV doc pm ct oc ccl cl u : Value} {an od cdd cld : Option Addr} {osl ccs csl : Array (Option Value)} {fI cc cda C D e t0 : Addr} {ar : Arg} {vs : Array Value} {file : Str} {tf : Tok} {cdD : ClassData} {mg mb : Str → Option Value}
    (TX : InitT sn vn f scope body) (hroom : A.depth < recursionLimit) (X : K.In s.heap) (lim : s.heap.NoLimit)
    (ho : K.lookup fI = some ⟨oc, od, .func (ksFn name qual params body scope .none kV doc pm an (.ref cda) ct cc), osl⟩) (hcd : codeIn K (.ref cda) qual = true)
    (hpar : (params.posonlyargs ++ params.args).head? = some ar) (har : ar.arg = sn)
    (hbind : BindsTo s (ksFn name qual params body scope .none kV doc pm an (.ref cda) ct cc) ⟨[.ref e, u], []⟩ [(sn, .ref e), (vn, u)])
    (hcode : K.lookup cda = some ⟨ccl, cdd, .fields vs, ccs⟩) (hvs : vs[2]? = some (.str file tf)) (hfile : ((prog.main.file : Str) == file) = true)
    (hcell : K.lookup cc = some ⟨cl, cld, .cell (some (.ref D)), csl⟩) (hD : clsIn K D = some cdD) (hsub : mroIn K C (.ref D) = some true)
    (hg : s.heap.Ns mainGlobals mg) (hgs : mg "super" = none) (hb : s.heap.Ns builtinsNs mb) (hbs : mb "super" = some (.type "super")) (htop : (prog.main.scope.names.lookup ("super" : Str)).isSome = false)
    (he : s.heap.get? e = some (PySem.HandSPX.excO C t0)) (hKe : K.lookup e = none) (T : OexC K C) (hst : nsIn K cStatics "thirdparty.any" = some none)
    (hm : ks_superIn K C D "__init__" = some (some (.builtin "ValueError.__init__"))) (hB : subIn K (.ref C) (.type "ValueError") = some true) (hno : findIn K (.ref C) f = some none)
    (h : ∀ h' t' t1 dx, (∀ b o, b ≠ e → s.heap.get? b = some o → h'.get? b = some o) → s.heap.objs.size ≤ dx → dx ≠ e → h'.get? e = some ({ cls := .ref C, dict := some dx, data := .fields #[.ref t1, .none, .none, .none, .bool false, .none] } : Obj) →
      h'.Ns1 dx (fun y => if y = f then some u else none) → R (.ok (.ret .none)) { s with heap := h', toks := t' }) :
    codeAny (model prog w) A (.call (.ref fI) ⟨[.ref e, u], []⟩) R s := by
  obtain ⟨p0, p1, p2, p3, p4, p5, p6, p7, p8, p9, hbd, hline⟩ := TX.body
  subst hbd
  have hloc : ∀ y ∈ [(sn, Value.ref e), (vn, u)], scope.names.lookup y.1 = some .local := fun y hy => by
    rcases List.mem_cons.mp hy with rfl | hy
    · exact TX.self
    · rcases List.mem_cons.mp hy with rfl | hy
      · exact TX.val
      · cases hy
  refine ks_codeAny_call_defAt hroom (X _ _ ho) rfl lim (codeRec_of X hcd) rfl hbind TX.nocell hloc (fun h0 hns kp => ?_) TX.co TX.gen TX.kind
  obtain ⟨hp, g, d, t, os⟩ := s
  have eV : (fun x => ([(sn, Value.ref e), (vn, u)] : List (Str × Value)).reverse.lookup x) vn = some u := by simp [List.lookup]
  have eS : (fun x => ([(sn, Value.ref e), (vn, u)] : List (Str × Value)).reverse.lookup x) sn = some (.ref e) := by
    have : (sn == vn) = false := by simpa using TX.ne
    simp [List.lookup, this]
  have X0 : K.In h0 := X.keeps kp
  have he0 := kp _ _ he
  obtain ⟨oD, hD1, hD2⟩ : ∃ oD, h0.get? D = some oD ∧ oD.data = .cls cdD := by
    unfold clsIn at hD
    split at hD
    · cases hD
      rename_i ho
      exact ⟨_, X0 _ _ ho, rfl⟩
    · cases hD
  have I0 : InstAt h0 e (PySem.HandSPX.excO C t0) C none := ⟨he0, rfl, rfl, trivial⟩
  have eneL : e ≠ hp.objs.size := Nat.ne_of_lt (Heap.lt_size he)
  refine ks_wpAt_execs_cons (ks_wpAt_Expr_any (ks_wpAt_MethodCall ?_ (supCall_of hline rfl (show 1 < 20 by decide))) (by simp [interactive, callEnv, newEnv, Env.blockKind, TX.kind]))
  refine ks_wpAt_super_base (f := fI) (cc := cda) (ar := ar) TX.sup TX.cls (by decide) rfl (X0 _ _ ho) rfl hpar rfl (X0 _ _ hcode) rfl hvs hfile htop ?_
  refine ks_loadName_global TX.kind TX.sup (loadGlobal_builtin (hg.keeps kp) hgs (hb.keeps kp) hbs ⟨rfl, ?_⟩)
  refine wpAny_loadName_free TX.kind TX.cls rfl ⟨_, X0 _ _ hcell, rfl⟩ ?_
  rw [har]
  refine wpAny_loadName_local TX.kind TX.self hns eS ?_
  refine ks_wpAny_isType_cls hD1 hD2 ⟨rfl, ?_⟩
  refine ks_wpAny_call_super hD1 hD2 he0 rfl (fun c z => by cases z) (looks_mroIn X0 hsub) (fun h1 hso k1 => ?_)
  have X1 : K.In h1 := X0.keeps k1
  obtain ⟨nm, q, N, bs, bm, sn', sub, ab, col, dd, k0', k1', k2', k3', k5', hC, hbm⟩ := id T.cls
  obtain ⟨cdC, hcC, hmro, hhd⟩ : ∃ cdC, clsIn K C = some cdC ∧ cdC.mro = .ref C :: bm ∧ cdC.hasDict = true := by
    refine ⟨{ name := nm, bases := bs, mro := .ref C :: bm, ns := N, qualname := q, hasDict := true, slotNames := sn', subclasses := sub, abstract := ab, collection := col, hasDel := false }, ?_, rfl, rfl⟩
    unfold clsIn; rw [hC] <;> rfl
  unfold ks_superIn at hm
  rw [hcC, Option.bind_some] at hm
  have I1 : InstAt h1 e (PySem.HandSPX.excO C t0) C none := ⟨k1 _ _ he0, rfl, rfl, trivial⟩
  refine kxs_getMethod kxs_ValueError hso (looks_opaque X1 hst) (l₀ := cdC.mro) (fun A Q E s k q => wpAny_bind ((looks_clsIn X1 hcC) A _ E s k (wpAny_pure q))) rfl X1 hm (I1.type.andThen (looks_subIn X1 hB)) (ks_ne X1 I1 hcC) (by decide) ?_
  have hu : (h1.push (kxs_mw "ValueError.__init__" e)).get? h1.objs.size = some (kxs_mw "ValueError.__init__" e) := Heap.get?_push_at rfl rfl
  have k2 : ∀ b o, h0.get? b = some o → (h1.push (kxs_mw "ValueError.__init__" e)).get? b = some o := fun b o z => Heap.get?_push_of_some _ (k1 b o z)
  show wpAny _ _ (callWith p4 (.ref h1.objs.size) [] (backTo p4 (starEach [.Name vn p3] _)) []) _ _ _
  refine kxs_callWith (i := "ValueError.__init__") (x := e) rfl (evalArgs_plain (Calls.spliced_cons (wpAny_Name (wpAny_loadName_local TX.kind TX.val (hns.keeps k2) eV ?_) TX.dbv)))
  have X2 : K.In (h1.push (kxs_mw "ValueError.__init__" e)) := X0.keeps k2
  have hs1 : 1 ≤ sizeLine := by rw [sizeLine_eq]; omega
  refine Calls.spliced_nil ⟨hu, call_mw T X2 (k2 _ _ he0) hu hs1 fun h3 t1 k3 he3 => ?_⟩
  obtain ⟨oL, esL, epL, hL, rL⟩ := hns
  have k03 : ∀ b o, b ≠ e → h0.get? b = some o → h3.get? b = some o := fun b o ne z => k3 b o ne (k2 b o z)
  have hL3 := k03 _ _ (Ne.symm eneL) hL
  have hns3 : h3.Ns hp.objs.size (fun x => ([(sn, Value.ref e), (vn, u)] : List (Str × Value)).reverse.lookup x) := ⟨oL, esL, epL, hL3, rL⟩
  have X3 : K.In h3 := fun b o z => k03 b o (fun y => by subst y; rw [hKe] at z; cases z) (X0 b o z)
  refine ks_wpAt_execs_cons (ks_wpAt_Assign_Attr (wpAt_of_wpAny (wpAny_Name (wpAny_loadName_local TX.kind TX.val hns3 eV (wpAny_Name (wpAny_loadName_local TX.kind TX.self hns3 eS ?_) TX.dbs)) TX.dbv)) rfl)
  refine PySem.W.set_plain X3 (ox := PySem.HandSPX.excO C t1) (od := none) ⟨he3, rfl, rfl, trivial⟩ T.sa ?_
  refine PySem.HandSPX.exc_osa X3 he3 hcC (by rw [hmro]; exact hbm) hhd hno (fun h' tk' dx k4 hdx hne he' hn' => ?_)
  have hle : hp.objs.size ≤ dx := Nat.le_trans (Nat.le_of_lt (Heap.lt_size hL3)) hdx
  exact wpAt_of_wpAny (wpAny_pure (h h' tk' t1 dx (fun b o ne z => k4 b o ne (k03 b o ne (kp b o z))) hle hne he' hn'))
end
end Snd
-- SE
namespace Snd
open PySem L2 Mi

/-! ### an own exception made -/
section
open PySem.W PySem.Calls PyProof.Rows PyProof.V PySem.Spec
variable {X : Cx}
theorem pmk_box {f x : Str} {C : Addr} {e : Expr} {ta : TA} {p pos : Pos} (O : ExcOk X.prog X.K f C) (hsu : X.mg "super" = none) (hr : Room 1 X.A) (hg : Gl X x) (hm : X.mg x = some (.ref C)) (ha : PA X [e] ta)
    (hdb : (x == ("__debug__" : Str)) = false) (he : starEach [e] X.env = (false, eval e X.env) :: starEach [] X.env) :
    PMk X (.Call (.Name x p) [e] [] pos) (fun σ H Q => ta σ H fun vs H1 => ∃ v, vs = [v] ∧ ∀ d, H1 d = none → Q (.ref C) (some d) (upd H1 d (.xd [(f, v)]))) := by
  intro pins s σ H Q I h
  obtain ⟨name, qual, sn, vn, params, body, scope, kV, doc, pm, ct, oc, ccl, cl, an, od, cdd, cld, osl, ccs, csl, fI, cc, cda, D, ar, vs, file, tf, cdD, iC, tI, TX, lk, hcd, hpar, har, hbind, hcode, hvs, hfile, hcell, hD, hsub, hsup⟩ := O.ini
  have T := O.oex
  obtain ⟨nm, q, N, bs, bm, sn', sub, ab, col, dd, k0, k1, k2, k3, k5, hC, hbm⟩ := T.cls
  refine wpAny_Call_Name_kw (ld_glob I hg hm ?_ hdb)
  refine PySem.W.callWith_K (h₀ := X.base) I.ok.mod.kin T.kC (thn (ha.run pos pins s σ H _ I h) fun us s1 ⟨vs', H1, I1, r1, v, ev, q1⟩ => ⟨I1.kIn, ?_⟩) he (by rfl)
  subst ev
  cases r1 with
  | @cons _ u _ ur ra rw' =>
  cases rw'
  show wpAny _ _ (call (.ref C) [u]) _ _ _
  obtain ⟨mb, hbn, hbb⟩ := I1.ok.mod.blt
  have hgl := I1.ok.mod.glob
  obtain ⟨hp, g, dr, tk, os⟩ := s1
  have hsz : hp.objs.size ≤ hp.objs.size + 1 := Nat.le_succ _
  have hn : H1 (hp.objs.size + 1) = none := I1.hok.fresh hsz
  have kk : ∀ b o, hp.get? b = some o → ((hp.push (PySem.W.kdv_tup [u])).push (PySem.HandSPX.excO C hp.objs.size)).get? b = some o := fun b o e => Heap.get?_push_of_some _ (Heap.get?_push_of_some _ e)
  have hget : ((hp.push (PySem.W.kdv_tup [u])).push (PySem.HandSPX.excO C hp.objs.size)).get? (hp.objs.size + 1) = some (PySem.HandSPX.excO C hp.objs.size) := by heap_get
  have I2 : Inv X pins σ (upd H1 (hp.objs.size + 1) (exo (hp.objs.size + 1) C none)) ⟨(hp.push (PySem.W.kdv_tup [u])).push (PySem.HandSPX.excO C hp.objs.size), g, dr, tk, os⟩ :=
    I1.laid (t' := tk) (a := hp.objs.size + 1) (o := exo (hp.objs.size + 1) C none) (h' := (hp.push (PySem.W.kdv_tup [u])).push (PySem.HandSPX.excO C hp.objs.size)) kk hsz (exo_ok hget)
  have hus : ([u] : List Value).length ≤ sizeLine := by rw [sizeLine_eq]; show 1 ≤ _; omega
  have hKe : X.K.lookup (hp.objs.size + 1) = none := by
    cases z : X.K.lookup (hp.objs.size + 1) with
    | none => rfl
    | some o =>
      have y := Heap.lt_size (I1.kIn _ _ z)
      exact absurd y (by show ¬ hp.objs.size + 1 < hp.objs.size; omega)
  refine wpAny_call (PySem.HandSPX.call_own F.excBase_ValueError (fun Y => PySem.HandSPX.refsVE_contains Y bm hbm) (I1.kIn _ _ hC) (PySem.W.looks_findIn I1.kIn iC) (fun self => PySem.W.bind_fn I1.kIn self tI) hus
    (init_run (C := C) (D := D) (e := hp.objs.size + 1) (t0 := hp.objs.size) (u := u) (f := f) (mg := X.mg) (mb := mb) TX ?hdepth I2.kIn ?hlim lk hcd hpar har ?hb hcode hvs hfile hcell hD hsub ?hgl hsu ?hbl ?hbs O.top hget hKe T O.st hsup O.ve O.no
      fun h' t' t1 dx kp hdx hne he' hn' => ?_))
  case hdepth => exact (hr.make C [u] []).depth
  case hlim => exact I2.nolimit
  case hb => exact fun _ _ _ _ q => wpAny_of_eq (hbind [_, _] rfl) q
  case hgl => exact hgl.keeps I2.bk
  case hbl => exact hbn.keeps I2.bk
  case hbs => exact (hbb _ (by decide)).trans (by first | rfl | decide +kernel)
  have hHa : (upd H1 (hp.objs.size + 1) (exo (hp.objs.size + 1) C none)) (hp.objs.size + 1) = some (exo (hp.objs.size + 1) C none) := upd_same
  have hnd : (upd H1 (hp.objs.size + 1) (exo (hp.objs.size + 1) C none)) dx = none := I2.hok.fresh hdx
  have hnd1 : H1 dx = none := by rw [upd_ne hne] at hnd; exact hnd
  have nd : ∀ {b : Addr} {o : Obj}, ((hp.push (PySem.W.kdv_tup [u])).push (PySem.HandSPX.excO C hp.objs.size)).get? b = some o → b ≠ dx := fun {b o} q => Nat.ne_of_lt (Nat.lt_of_lt_of_le (Heap.lt_size q) hdx)
  have na : ∀ {b : Addr}, (upd H1 (hp.objs.size + 1) (exo (hp.objs.size + 1) C none)) b = none → b ≠ hp.objs.size + 1 := fun {b} n z => by
    rw [z, upd_same] at n
    cases n
  have Un1 : Un (frs X.stack) [] (upd H1 (hp.objs.size + 1) (exo (hp.objs.size + 1) C none)) (upd (upd (upd H1 (hp.objs.size + 1) (exo (hp.objs.size + 1) C none)) dx (exd dx [(f, v)])) (hp.objs.size + 1) (exo (hp.objs.size + 1) C (some dx)))
      ((hp.push (PySem.W.kdv_tup [u])).push (PySem.HandSPX.excO C hp.objs.size)) h' := {
    keep := fun b o q n _ _ => kp b o (na n) q
    slot := fun b o q n _ _ => ⟨o.slots, kp b o (na n) q⟩
    free := fun b o q n _ => by rw [upd_ne (na n), upd_ne (nd q)]; exact n
    there := fun b o q _ => by
      by_cases hb : b = hp.objs.size + 1
      · exact ⟨_, by rw [hb]; exact he'⟩
      · exact ⟨o, kp b o hb q⟩
    tups := fun b xs q => by rw [upd_ne (at_ne hHa q exo_tup), upd_ne (ne_of_none q hnd)]; exact q
    frzs := fun b o v q => by rw [upd_ne (at_ne hHa q exo_frz), upd_ne (ne_of_none q hnd)]; exact q
    tbls := fun b ps q => ⟨#[], by rw [upd_ne (at_ne hHa q exo_tbl), upd_ne (ne_of_none q hnd), q]; simp⟩ }
  have hok2 : HOk X.prog X.w (upd (upd (upd H1 (hp.objs.size + 1) (exo (hp.objs.size + 1) C none)) dx (exd dx [(f, v)])) (hp.objs.size + 1) (exo (hp.objs.size + 1) C (some dx))) h' := fun b o q => by
    by_cases hb : b = hp.objs.size + 1
    · subst hb
      rw [upd_same] at q
      cases q
      exact exo_ok he'
    · rw [upd_ne hb] at q
      by_cases hd : b = dx
      · subst hd
        rw [upd_same] at q
        cases q
        exact exd_ok hn' (relO_put (fs := []) ra fun g => True.intro)
      · rw [upd_ne hd] at q
        exact (I2.hok b o q).stay (fun c v hc z => kp c v (by
            rcases hc with hc | hc
            · rw [hc]
              exact hb
            · exact at_ne hHa hc exo_own) z)
          (fun c hc => by rw [upd_ne (at_ne hHa hc exo_own), upd_ne (ne_of_none hc hnd)]; exact hc) (fun c xs hc => by rw [upd_ne (at_ne hHa hc exo_tup), upd_ne (ne_of_none hc hnd)]; exact hc)
  have eH : upd (del (upd (upd (upd H1 (hp.objs.size + 1) (exo (hp.objs.size + 1) C none)) dx (exd dx [(f, v)])) (hp.objs.size + 1) (exo (hp.objs.size + 1) C (some dx))) (hp.objs.size + 1)) dx (.xd [(f, v)]) = upd H1 dx (.xd [(f, v)]) := by
    funext b
    by_cases hd : b = dx
    · subst hd; rw [upd_same, upd_same]
    · rw [upd_ne hd, upd_ne hd]
      by_cases hb : b = hp.objs.size + 1
      · subst hb; rw [del_same, hn]
      · rw [del_ne hb, upd_ne hb, upd_ne hd, upd_ne hb]
  refine ⟨rfl, mk_end (fs := [(f, v)]) (raises_own T.exC T.tyC) I1 hsz kk Un1 hok2 rfl I1.bare upd_same ?_ hnd1 ?_⟩
  · rw [upd_ne hne, upd_same]
  · rw [eH]; exact q1 dx hnd1
end
section
variable {T : Tab} {Φ : Phi} {L : Nat} {X : Cx}
theorem good_raise (TO : TOk T) (C : COk T L X) {c : String} {ie : IE} {e : Expr} {p pos pos' : Pos} (h : GoodA T Φ X (.cons ie .nil) [e]) (hg : Gl X (Str.ofString c)) (hc : T.G.xcl.contains c = true) (hdb : (Str.ofString c == ("__debug__" : Str)) = false)
    (he : starEach [e] X.env = (false, eval e X.env) :: starEach [] X.env) : GoodS T Φ X (.raise c ie) (.Raise (some (.Call (.Name (Str.ofString c) p) [e] [] pos)) none pos') := by
  intro g I F H st env σ D er S q
  obtain ⟨Cc, hx, hm, O, hsu⟩ := TO.exc c hc
  have q : wpA T.P Φ (.cons ie .nil) env st (fun vs st1 => ∃ v, vs = [v] ∧ D.ex c v env st1) (fun c v st' => D.ex c v env st') := by
    have z : wpE T.P Φ ie env st (fun v st1 => D.ex c v env st1) (fun c v st' => D.ex c v env st') := q
    show wpE T.P Φ ie env st (fun v st1 => ∃ w, [v] = [w] ∧ D.ex c w env st1) _
    have ef : (fun (v : MV) (st1 : Sto) => D.ex c v env st1) = (fun v st1 => ∃ w, [v] = [w] ∧ D.ex c w env st1) := by
      funext v st1
      exact propext ⟨fun z => ⟨v, rfl, z⟩, fun ⟨w, e1, z⟩ => by cases e1; exact z⟩
    rw [← ef]; exact z
  refine run_S (ps_raise C.nd_calm er.tk (pmk_box (f := "value") (by rw [C.pr, C.K]; exact O) (by rw [C.mg]; exact hsu) (C.room.mono (by omega)) hg (by rw [C.mg]; exact hm) rA hdb he)) ?_
  refine h.then_ er.e S q fun g1 I1 H1 st1 xs vs a1 b1 S1 er1 r1 ⟨x, ex, q1⟩ => ?_
  subst ex
  obtain ⟨v, rfl, rv⟩ := r1.one
  refine ⟨v, rfl, fun d hd => ?_⟩
  have S2 := S1.frozen (u := .xd [("value", v)]) hd
  have le := fresh_le (u := .xd [("value", v)]) S1.ih hd
  exact ⟨g1, _, env, c, x, st1, a1, b1.trans le, S2, er1.rel.mono (LeM.refl _) le, ⟨Cc, d, v, hx, rfl, rfl, upd_same, rv.mono (LeM.refl _) le⟩, q1⟩
end
end Snd
-- SF
set_option maxHeartbeats 4000000
namespace Snd
open PySem PySem.W PySem.Spec PySem.Calls PyProof.Rows
section
variable {prog : Program} {w : World} {A : Around} {E : Value → Shared → Prop} {s : Shared} {K : Frag} {x D : Addr} {ox : Obj}
theorem findObj_dataX {C : Addr} {name : Str} {a g : Value} {od : Option Obj} (hc : (clsIn K C).isSome = true) (ha : findIn K (.ref C) name = some (some a)) (hg : specialIn K a "__get__" = some (some g)) (ht : takesIn K a = some true) : findObj K C od name = some (.bind g a) := by
  obtain ⟨cd, hc⟩ := Option.isSome_iff_exists.mp hc
  unfold findObj
  rw [hc, Option.bind_some, ha, Option.bind_some]
  simp [hg, ht]
theorem kin_classX {od : Option Obj} {Q : Option Value → Shared → Prop} (hga : findIn K (.ref D) "__getattribute__" = some (some (.builtin "BaseException.__getattribute__"))) (hgt : findIn K (.ref D) "__getattr__" = some none) (hsub : subIn K (.ref D) (.type "BaseException") = some true)
    (hdct : hasDictIn K D = true) (ha : findIn K (.ref D) "__class__" = some (some (.builtin "object.__class__")))
    (hn : specialIn K (.builtin "object.__class__") "__get__" = some (some (.builtin "getset_descriptor.__get__"))) (htk : takesIn K (.builtin "object.__class__") = some true) (hm : mroIn K D (.type "object") = some true)
    (X : K.In s.heap) (I : InstAt s.heap x ox D od) (h : Q (some (.ref D)) { s with toks := s.toks + 1 }) : wpAny (model prog w) A (getAttr? (.ref x) "__class__") Q E s := by
  have hf : findObj K D od "__class__" = some (.bind (.builtin "getset_descriptor.__get__") (.builtin "object.__class__"))   := findObj_dataX (by obtain ⟨cd, hc, _⟩ := any_some hdct; rw [hc]; rfl) ha hn htk
  obtain ⟨hp, g, d, t, os⟩ := s
  have L0 := I.type (M := model prog w)
  have L1 := looks_findIn (M := model prog w) X hga
  have L2 := looks_findIn (M := model prog w) X hgt
  have L3 := looks_find (M := model prog w) X I hf
  have sub : Looks (model prog w) hp (isInstance (.ref x) (.type "BaseException")) true := L0.andThen (looks_subIn X hsub)
  have hx0 : (false && onTheHeap (Value.builtin "BaseException.__getattribute__")) = false := rfl
  have hx2 : (Value.builtin "BaseException.__getattribute__" == Value.builtin "object.__getattribute__") = false := by decide +kernel
  have hx1 : (onTheHeap (Value.ref D) && Value.builtin "BaseException.__getattribute__" == Value.builtin "object.__getattribute__") = false := by rw [hx2]; rfl
  unfold getAttr? getAttrBy? getAttrBy
  refine wpAny_bind (wpAny_mkText (wpAny_bind (wpAny_attempt (wpAny_holding (wpAny_bind (L0.at (wpAny_bind (L1.at ?_))))))))
  show wpAny _ _ (if (onTheHeap (Value.ref D) && Value.builtin "BaseException.__getattribute__" == Value.builtin "object.__getattribute__") = true then _ else _) _ _ _
  rw [hx1, if_neg Bool.false_ne_true]
  unfold getAttrByItsOwn hookBefore
  refine wpAny_bind ?_
  rw [if_pos (show onTheHeap (Value.ref D) = true from rfl)]
  refine L2.at ?_
  refine wpAny_bind (wpAny_attempt (wpAny_holding ?_))
  unfold callGetattribute
  rw [hx0, if_neg Bool.false_ne_true]
  unfold boundAndCalled
  rw [PySem.F.excAttr_ValueError.ga.bind (.ref x)]
  refine wpAny_bind (wpAny_pure ?_)
  show wpAny _ _ (call (.builtin "BaseException.__getattribute__") [.ref x, .str "__class__" t]) _ _ _
  refine wpAny_call (codeAny_call_builtin PySem.F.excAttr_ValueError.ga.plain PySem.F.entry_bexc_ga ?_)
  refine @check_slot (model prog w) _ _ ⟨hp, g, d, t + 1, os⟩ "BaseException.__getattribute__" "BaseException" "__getattribute__" (.ref x) [.str "__class__" t] [] _ (by decide +kernel) (by decide +kernel) sub (PySem.F.args_bexc_ga (.ref x) (.str "__class__" t)) ?_
  unfold Builtin.«object.__getattribute__»
  refine wpAny_bind (wpAny_of_eq (a := ((Value.ref x : Value), [Value.str "__class__" t])) (by first | rfl | (simp only [slotArgs]; rfl)) ?_)
  refine wpAny_bind (wpAny_pure (wpAny_bind (L0.at (wpAny_bind (L3.at ?_)))))
  show wpAny _ _ (holding [Value.builtin "object.__class__"] (call (.builtin "getset_descriptor.__get__") [.builtin "object.__class__", .ref x, .ref D]) >>= ret) _ _ _
  refine wpAny_bind (wpAny_holding (wpAny_call (class_get (s := ⟨hp, g, d, t + 1, os⟩) (ox := ox) (od := od) X I hm ?_)))
  refine wpAny_pure ?_
  show wpAny _ _ (handedOut (.ref D)) _ _ _
  rw [handedOut_of (v := .ref D) rfl]
  first
    | exact wpAny_pure (wpAny_pure h)
    | exact wpAny_pure h
    | exact wpAny_pure (wpAny_bind (wpAny_pure (wpAny_pure h)))
theorem kitx_excX {od : Obj} (hga : findIn K (.ref D) "__getattribute__" = some (some (.builtin "BaseException.__getattribute__"))) (hgt : findIn K (.ref D) "__getattr__" = some none) (hsub : subIn K (.ref D) (.type "BaseException") = some true) (hdct : hasDictIn K D = true) (ha : findIn K (.ref D) "__class__" = some (some (.builtin "object.__class__")))
    (hn : specialIn K (.builtin "object.__class__") "__get__" = some (some (.builtin "getset_descriptor.__get__"))) (htk : takesIn K (.builtin "object.__class__") = some true) (hm : mroIn K D (.type "object") = some true) :
    KitX K (.ref x) (.ref D) (fun h => InstAt h x ox D (some od)) where
  ty := fun _ _ _ I => I.type
  it := fun _ _ X _ => by
    obtain ⟨cdD, hcD, _⟩ := any_some hdct
    unfold clsIn at hcD
    split at hcD
    · rename_i c' d' cd' sl' ho
      intro A' Q' E' s' k q
      unfold isType loadHead
      exact wpAny_bind (wpAny_loadPart (k _ _ (X _ _ ho)) (wpAny_pure q))
    · cases hcD
  ne := fun h tp dd its n sl X htp => by
    obtain ⟨cdD, hcD, _⟩ := any_some hdct
    refine Bool.eq_false_iff.mpr fun q => ?_
    have e : D = tp := Value.ref.inj (beq_iff_eq.mp q)
    subst e
    unfold clsIn at hcD
    split at hcD
    · rename_i c' d' cd' sl' ho
      have z := (X _ _ ho).symm.trans htp
      cases z
    · cases hcD
  ca := fun X I k => kin_classX hga hgt hsub hdct ha hn htk hm X I k

end
end Snd
namespace Snd
open PySem L2 Mi
/-- isinstance(e, c), e a caught exception -/
def rIsX (K : PySem.W.Frag) : List V → Hp → VK → Prop := fun xs H Q => ∃ (p D dd : Addr) (c : V) (cv : Value) (b : Bool) (fs : List (Str × V)), xs = [.ref p, c] ∧ (∀ u, RelV c u → u = cv) ∧ H p = some (XO (.ref D) (some dd) p) ∧ H dd = some (.xd fs) ∧ L2.ExcC K D ∧ PySem.W.kitOne K (.ref D) cv = some b ∧ Q (.bl b) H
theorem call_isX {X : Cx} : CallR X (.builtin "isinstance") (rIsX X.K) := by
  intro pins s σ H xs us Q I r h
  obtain ⟨p, D, dd, c, cv, b, fs, rfl, hcv, hH, hd, C, e, q⟩ := h
  cases r with
  | cons rx rr =>
    cases rr with
    | cons rt rr =>
      cases rr
      cases rx
      have ec := hcv _ rt
      subst ec
      have hp2 : ObjOk X.prog X.w H s.heap p (.ext fun h => ∃ (oe : Obj) (vs : Array Value), h.get? p = some oe ∧ Zc (.ref D) (some dd) oe ∧ oe.data = .fields vs) := I.hok p _ hH
      obtain ⟨⟨oe, vs, ho, hz, hdt⟩, _, _⟩ := hp2
      obtain ⟨mA, hns, hr⟩ := (show ObjOk X.prog X.w H s.heap dd (.xd fs) from I.hok dd _ hd)
      obtain ⟨od, hod, hl⟩ := lookIn_ns hns
      have J : PySem.W.InstAt s.heap p oe D (some od) := ⟨ho, hz.1, by unfold PySem.W.notCls; rw [hdt] <;> rfl, by rw [hz.2]; exact hod⟩
      exact PySem.W.kia_one (kitx_excX C.hg C.hk C.hs C.hd C.ha C.hn C.ht C.hm) I.kIn J e (fun z => nomatch z) fun tk => ⟨.bl b, H, I.kept (t' := tk) fun _ _ z => z, rfl, q⟩
/-- isinstance(None, c), c an own class -/
theorem kit_nonX {K : PySem.W.Frag} {C : Addr} (hd : PySem.W.hasDictIn K C = true) (ht : PySem.W.typeIn K (.ref C) = some (.type "type")) : PySem.W.kitOne K (.type "NoneType") (.ref C) = some false := by
  obtain ⟨cd, hc, _⟩ := PySem.W.any_some hd
  unfold PySem.W.kitOne
  rw [if_neg (show ¬ ((Value.type "NoneType" == Value.ref C) = true) from fun h => Value.noConfusion (beq_iff_eq.mp h))]
  unfold PySem.W.kitCls
  simp only [hc, ht, Option.isSome_some, Bool.true_and, beq_self_eq_true, if_true]
  have e : fastBuiltinMro "NoneType" = some [.type "NoneType", .type "object"] := by kernel_rfl
  show Option.map (fun x => x.contains (Value.ref C)) (fastBuiltinMro "NoneType") = some false
  rw [e]
  simp
/-- isinstance(e, c), e a ValueError -/
theorem kit_veX {K : PySem.W.Frag} {C : Addr} (hd : PySem.W.hasDictIn K C = true) (ht : PySem.W.typeIn K (.ref C) = some (.type "type")) : PySem.W.kitOne K (.type "ValueError") (.ref C) = some false := by
  obtain ⟨cd, hc, _⟩ := PySem.W.any_some hd
  unfold PySem.W.kitOne
  rw [if_neg (show ¬ ((Value.type "ValueError" == Value.ref C) = true) from fun h => Value.noConfusion (beq_iff_eq.mp h))]
  unfold PySem.W.kitCls
  simp only [hc, ht, Option.isSome_some, Bool.true_and, beq_self_eq_true, if_true]
  have e : fastBuiltinMro "ValueError" = some [.type "ValueError", .type "Exception", .type "BaseException", .type "object"] := by kernel_rfl
  show Option.map (fun x => x.contains (Value.ref C)) (fastBuiltinMro "ValueError") = some false
  rw [e]
  simp
def rIsXB (K : PySem.W.Frag) : List V → Hp → VK → Prop := fun xs H Q => ∃ (p : Addr) (c : V) (cv : Value) (b : Bool), xs = [.ref p, c] ∧ (∀ u, RelV c u → u = cv) ∧ H p = some (XO (.type "ValueError") none p) ∧ PySem.W.kitOne K (.type "ValueError") cv = some b ∧ Q (.bl b) H
theorem ve_lk : typeLookup (.type "ValueError") "__class__" = pure (some (.builtin "object.__class__")) := by kernel_rfl
theorem ve_so : isSubtype (.type "ValueError") (.type (".".intercalate ("object.__class__".cutAt '.').dropLast)) = pure true := by kernel_rfl
theorem call_isXB {X : Cx} : CallR X (.builtin "isinstance") (rIsXB X.K) := by
  intro pins s σ H xs us Q I r h
  obtain ⟨p, c, cv, b, rfl, hcv, hH, e, q⟩ := h
  cases r with
  | cons rx rr =>
    cases rr with
    | cons rt rr =>
      cases rr
      cases rx
      have ec := hcv _ rt
      subst ec
      have hp2 : ObjOk X.prog X.w H s.heap p (.ext fun h => ∃ (oe : Obj) (vs : Array Value), h.get? p = some oe ∧ Zc (.type "ValueError") none oe ∧ oe.data = .fields vs) := I.hok p _ hH
      obtain ⟨⟨oe, vs, ho, hz, hdt⟩, _, _⟩ := hp2
      exact PySem.W.kia_one (PySem.W.kitx_bexc PySem.F.excAttr_ValueError ve_lk ve_so (by decide)) I.kIn ⟨oe, ho, hz.1⟩ e (fun z => nomatch z) fun tk => ⟨.bl b, H, I.kept (t' := tk) fun _ _ z => z, rfl, q⟩
def rIsXN (K : PySem.W.Frag) : List V → Hp → VK → Prop := fun xs H Q => (∃ (c : V) (cv : Value) (b : Bool), xs = [.non, c] ∧ (∀ u, RelV c u → u = cv) ∧ PySem.W.kitOne K (.type "NoneType") cv = some b ∧ Q (.bl b) H) ∨ rIsXB K xs H Q ∨ rIsX K xs H Q
theorem call_isXN {X : Cx} : CallR X (.builtin "isinstance") (rIsXN X.K) := by
  intro pins s σ H xs us Q I r h
  rcases h with ⟨c, cv, b, rfl, hcv, e, q⟩ | h | h
  · cases r with
    | cons rx rr =>
      cases rr with
      | cons rt rr =>
        cases rr
        have ex := rx
        cases ex
        have ec := hcv _ rt
        subst ec
        exact PySem.W.kia_one PySem.W.kitx_none I.kIn trivial e (fun z => nomatch z) fun tk => ⟨.bl b, H, I.kept (t' := tk) fun _ _ z => z, rfl, q⟩
  · exact call_isXB pins s σ H xs us Q I r h
  · exact call_isX pins s σ H xs us Q I r h
section
variable {T : Tab} {Φ : Phi} {L : Nat} {X : Cx}
theorem good_isx (TO : TOk T) (C : COk T L X) {a : IE} {c : String} {y : Expr} {p p2 pos : Pos} (hc : T.G.xis.contains c = true) (ha : GoodE T Φ X a y) (hg : Gl X (Str.ofString "isinstance")) (hz : Gl X (Str.ofString c)) (hs : noStar [y] = true)
    (hd : (Str.ofString c == ("__debug__" : Str)) = false) :
    GoodE T Φ X (.isx a c) (.Call (.Name (Str.ofString "isinstance") p) [y, .Name (Str.ofString c) p2] [] pos) := by
  intro g I F H st env σ Q XP er S q
  obtain ⟨C', hm, hN, hk⟩ := TO.xis c hc
  have hty : PE X (.Name (Str.ofString c) p2) (tC (.ref C')) := pe_glob hz (by rw [C.mg]; exact hm) rfl hd
  have hs2 : starEach [y, .Name (Str.ofString c) p2] X.env = (false, eval y X.env) :: starEach [.Name (Str.ofString c) p2] X.env := by
    cases y <;> first | rfl | exact absurd hs Bool.false_ne_true
  refine run_E (pe_callB call_isXN hg (by rw [C.mg]; exact TO.isi) (by show bootBuiltins "isinstance" = _; decide +kernel) (pa_cons rE (pa_cons hty pa_nil) hs2) (by decide +kernel) (by decide +kernel) hs2 rfl) ?_
  refine ha.then_ er S q fun g1 I1 H1 st1 ym v a1 b1 S1 er1 r1 q1 => ?_
  rcases q1 with ⟨rfl | ⟨n, rfl, hst⟩, q2⟩ | ⟨n, c', x, rfl, hst, q2⟩
  · have rv : v = .non := r1
    subst rv
    exact .inl ⟨.ref C', .ref C', false, rfl, fun u r => by cases r; rfl, by rw [C.K]; exact hN.1, QV.from_ a1 b1 (QV.bl S1 q2)⟩
  · obtain ⟨q0, hp, rfl⟩ := r1
    exact .inr (.inl ⟨q0, .ref C', .ref C', false, rfl, fun u r => by cases r; rfl, S1.at_ hp hst, by rw [C.K]; exact hN.2, QV.from_ a1 b1 (QV.bl S1 q2)⟩)
  refine .inr (.inr ?_)
  obtain ⟨q0, hp, rfl⟩ := r1
  obtain ⟨D, dd, w, hx, hH, hdd, rv⟩ := S1.at_ hp hst
  obtain ⟨Ex, _, _⟩ := TO.xk c' D hx
  refine ⟨q0, D, dd, .ref C', .ref C', _, _, rfl, fun u r => by cases r; rfl, hH, S1.ih _ _ hdd, by rw [C.K]; exact Ex, by rw [C.K]; exact hk c' D hx, QV.from_ a1 b1 (QV.bl S1 q2)⟩
end
end Snd
-- SO
set_option maxHeartbeats 2000000
namespace Snd
open PySem L2 Mi
abbrev Looks {α : Type} := @PySem.W.Looks α

/-! ### own objects: ==, !=, len, isinstance -/
theorem bi_mro : ∀ n ∈ ["NoneType", "bool", "int", "str", "tuple", "list", "dict"], ∃ l : List String, fastBuiltinMro n = some (l.map Value.type) := by
  intro n hn
  simp only [List.mem_cons, List.not_mem_nil, or_false] at hn
  rcases hn with rfl | rfl | rfl | rfl | rfl | rfl | rfl
  · exact ⟨["NoneType", "object"], by kernel_rfl⟩
  · exact ⟨["bool", "int", "object"], by kernel_rfl⟩
  · exact ⟨["int", "object"], by kernel_rfl⟩
  · exact ⟨["str", "object"], by kernel_rfl⟩
  · exact ⟨["tuple", "object"], by kernel_rfl⟩
  · exact ⟨["list", "object"], by kernel_rfl⟩
  · exact ⟨["dict", "object"], by kernel_rfl⟩
theorem no_ref (l : List String) (C : Addr) : (l.map Value.type).contains (Value.ref C) = false := by
  induction l with
  | nil => rfl
  | cons a r ih =>
    rw [List.map_cons, List.contains_cons, ih]
    simp
theorem sub_bi {K : PySem.W.Frag} {C : Addr} {n : String} (hn : n ∈ ["NoneType", "bool", "int", "str", "tuple", "list", "dict"]) : PySem.W.subIn K (.type n) (.ref C) = some false := by
  obtain ⟨l, e⟩ := bi_mro n hn
  show (fastBuiltinMro n).map (·.contains (Value.ref C)) = _
  rw [e]
  simp only [Option.map_some, no_ref]
theorem kit_bi {K : PySem.W.Frag} {C : Addr} (hd : PySem.W.hasDictIn K C = true) (ht : PySem.W.typeIn K (.ref C) = some (.type "type")) {n : String} (hn : n ∈ ["NoneType", "bool", "int", "str", "tuple", "list", "dict"]) : PySem.W.kitOne K (.type n) (.ref C) = some false := by
  obtain ⟨cd, hc, _⟩ := PySem.W.any_some hd
  unfold PySem.W.kitOne
  rw [if_neg (show ¬ ((Value.type n == Value.ref C) = true) from fun h => Value.noConfusion (beq_iff_eq.mp h))]
  unfold PySem.W.kitCls
  simp only [hc, ht, Option.isSome_some, Bool.true_and, beq_self_eq_true, if_true]
  obtain ⟨l, e⟩ := bi_mro n hn
  show Option.map (fun x => x.contains (Value.ref C)) (fastBuiltinMro n) = some false
  rw [e]
  simp only [Option.map_some, no_ref]
section
variable {T : Tab} {Φ : Phi} {L : Nat} {X : Cx}
theorem ty_any (TO : TOk T) (C : COk T L X) {g : Mu} {I F H : Hp} {st : Sto} {x : MV} {v : V} {o : Option String} (S : T.Sim g I F H st) (r : RepV T.K g I x v) (h : tyO st x = some o) :
    (o = none ∧ ∃ n, n ∈ ["NoneType", "bool", "int", "str", "tuple", "list", "dict"] ∧ TyX X.K H v (.type n)) ∨ ∃ c D, o = some c ∧ T.cl c = some D ∧ TyX X.K H v (.ref D) := by
  rw [C.K]
  cases x with
  | non => cases r; cases h; exact .inl ⟨rfl, "NoneType", by decide, .base .non⟩
  | bl b => cases r; cases h; exact .inl ⟨rfl, "bool", by decide, .base (.bl b)⟩
  | int i => cases r; cases h; exact .inl ⟨rfl, "int", by decide, .base (.int i)⟩
  | str s => cases r; cases h; exact .inl ⟨rfl, "str", by decide, .base (.str _)⟩
  | tup xs =>
    cases h
    obtain ⟨p, vs, rfl, h1, _⟩ := r
    refine .inl ⟨rfl, "tuple", by decide, ?_⟩
    rcases S.ih.tup h1 with (e | ⟨o, e⟩) | e
    · exact .base (.tup e)
    · exact .fTuple e
    · obtain ⟨o, _, _, hk, hc, _⟩ := e
      exact .kTuple hk hc
  | lsv xs =>
    cases h
    obtain ⟨p, vs, rfl, h1, _⟩ := r
    refine .inl ⟨rfl, "list", by decide, ?_⟩
    rcases S.ih.lst h1 with (e | ⟨o, e⟩) | e
    · exact .base (.lst e)
    · exact .base (.frz e)
    · obtain ⟨o, _, _, hk, hc, _⟩ := e
      exact .kList hk hc
  | ref a =>
    obtain ⟨p, hp, rfl⟩ := r
    simp only [tyO] at h
    split at h
    · rename_i xs hs
      cases h
      obtain ⟨vs, e1, _⟩ := S.at_ hp hs
      exact .inl ⟨rfl, "list", by decide, .base (.lst e1)⟩
    · rename_i lk kvs hs
      cases h
      obtain ⟨ws, e1, _⟩ := dic_rd S hp hs
      refine .inl ⟨rfl, "dict", by decide, ?_⟩
      rcases e1 with e | ⟨o, e⟩
      · exact .base (.dK e)
      · exact .fDict e
    · rename_i c fs hs
      cases h
      obtain ⟨Cl, dx, ws, hc, hH, rf⟩ := S.at_ hp hs
      have O := TO.own c Cl hc
      exact .inr ⟨c, Cl, rfl, hc, .base (.ins hH (TO.clk c Cl hc) O.cl O.hn O.ht O.ob)⟩
    · cases h
theorem good_iso (TO : TOk T) (C : COk T L X) {a : IE} {c : String} {y : Expr} {p p2 pos : Pos} (hc : T.G.cls.contains c = true) (ha : GoodE T Φ X a y) (hg : Gl X (Str.ofString "isinstance")) (hz : Gl X (Str.ofString c)) (hs : noStar [y] = true)
    (hd : (Str.ofString c == ("__debug__" : Str)) = false) :
    GoodE T Φ X (.iso a c) (.Call (.Name (Str.ofString "isinstance") p) [y, .Name (Str.ofString c) p2] [] pos) := by
  intro g I F H st env σ Q XP er S q
  obtain ⟨C', q', hcl, hm, _⟩ := TO.cls c hc
  have hty : PE X (.Name (Str.ofString c) p2) (tC (.ref C')) := pe_glob hz (by rw [C.mg]; exact hm) rfl hd
  have hs2 : starEach [y, .Name (Str.ofString c) p2] X.env = (false, eval y X.env) :: starEach [.Name (Str.ofString c) p2] X.env := by
    cases y <;> first | rfl | exact absurd hs Bool.false_ne_true
  refine run_E (pe_callB call_isi hg (by rw [C.mg]; exact TO.isi) (by show bootBuiltins "isinstance" = _; decide +kernel) (pa_cons rE (pa_cons hty pa_nil) hs2) (by decide +kernel) (by decide +kernel) hs2 rfl) ?_
  refine ha.then_ er S q fun g1 I1 H1 st1 ym v a1 b1 S1 er1 r1 q1 => ?_
  obtain ⟨o, ho, q2⟩ := q1
  rcases ty_any TO C S1 r1 ho with ⟨rfl, n, hn, ht⟩ | ⟨c', D, rfl, hD, ht⟩
  · exact ⟨v, .ref C', .type n, .ref C', false, rfl, .own _, ht, by rw [C.K]; exact kit_bi (TO.clk c C' hcl).hd (TO.own c C' hcl).ty hn, QV.from_ a1 b1 (QV.bl S1 q2)⟩
  · refine ⟨v, .ref C', .ref D, .ref C', (c' == c), rfl, .own _, ht, by rw [C.K]; exact TO.iso c C' c' D hcl hD, QV.from_ a1 b1 (QV.bl S1 ?_)⟩
    have e : (some c' == some c) = (c' == c) := rfl
    rw [← e]; exact q2
theorem good_olen (TO : TOk T) (C : COk T L X) (HF : AllF T Φ L) {a : IE} {y : Expr} {p pos : Pos} (ha : GoodE T Φ X a y) (hg : Gl X (Str.ofString "len")) (hs : noStar [y] = true) :
    GoodE T Φ X (.olen a) (.Call (.Name (Str.ofString "len") p) [y] [] pos) := by
  intro g I F H st env σ Q XP er S q pins s I0
  have e1 := star_cons X.env hs
  refine PyProof.Rows.Call_ (ld_blt I0 hg (by rw [C.mg]; exact TO.bn .len) (by show bootBuiltins "len" = some (.builtin "len"); decide +kernel) (PyProof.Rows.callWith_builtin1 (PyProof.Rows.args_cons (thn (ha g I F H st env σ _ _ er S q pins s I0) fun u1 s1 ⟨v, H1, I2, ru1, g1, m1, x, st1, a1, b1, S1, r1, q1⟩ => PyProof.Rows.args_nil ?_) e1) e1 rfl) (by decide) (by decide)) rfl
  obtain ⟨n, c, fs, qn, rfl, hst, hq, q2⟩ := q1
  obtain ⟨p', hp, rfl⟩ := r1
  obtain ⟨Cl, dx, ws, hc, hH, rf⟩ := S1.at_ hp hst
  obtain ⟨Cl', fa, hc', hfa, M, hfn⟩ := TO.mt c _ qn hq
  rw [hc] at hc'; cases hc'
  rw [← C.K] at M
  cases ru1
  obtain ⟨mA, O, _⟩ := ins_get I2.hok hH
  obtain ⟨od, J, _⟩ := O.look
  obtain ⟨mm, Fm⟩ := frm I2
  refine PySem.W.len_K Fm I2.ok.mod.kin J M.at_ M.fn ?_
  have rr1 : RepVs T.K g1 m1 [MV.ref n] [V.ref p'] := ⟨_, _, rfl, ⟨p', hp, rfl⟩, rfl⟩
  refine thn (fnc_run C (HF _ _ hfa) (us := [.ref p']) (vs := [V.ref p']) (er.mono a1 b1) (fun _ _ z => z) C.rin C.gu I2.env0.in1 I2 (.cons rfl .nil) S1 rr1 q2) fun u s' ⟨z, H3, I3, r3, g3, m3, xm, st3, a3, b3, S3, r4, i, et, h0, h1, q3⟩ => ?_
  subst et
  cases r4
  obtain ⟨tk, rfl⟩ := r3
  exact ⟨⟨h0, by omega⟩, .int i, H3, I3.tok _, ⟨_, rfl⟩, QV.from_ (a1.trans a3) (b1.trans b3) (QV.int S3 q3)⟩
theorem ifBound_ne {M : Model} {A : Around} {E : Value → Shared → Prop} {s : Shared} {K : PySem.W.Frag} {x C : Addr} {ox : Obj} {od : Option Obj} {args : List Value} {Q : Option Value → Shared → Prop} (X : K.In s.heap) (I : PySem.W.InstAt s.heap x ox C od) (hs : PySem.W.findIn K (.ref C) "__ne__" = some (some (.builtin "object.__ne__")))
    (h : wpAny M A (call (.builtin "object.__ne__") (.ref x :: args)) (fun v => Q (some v)) E s) : wpAny M A (callSpecialIfBound? (.ref x) "__ne__" args) Q E s := by
  simp only [callSpecialIfBound?, bindSpecialIfBound?]
  refine wpAny_holding (wpAny_bind (wpAny_bind (wpAny_bind (I.type.here ((PySem.W.looks_findIn X hs).here ?_)))))
  refine wpAny_bind (wpAny_askSetting (wpAny_ite ?_))
  have fin : wpAny M A (call (.builtin "object.__ne__") ([.ref x] ++ args) >>= fun v => pure (some v)) Q E s := wpAny_bind (wpAny_mono h (fun v s' h' => wpAny_pure h') fun _ _ h' => h')
  have bd : Looks M s.heap (bindSpecial (.builtin "object.__ne__") (.ref x)) (.builtin "object.__ne__", [.ref x]) := PySem.W.Looks.of_pure (PySem.F.cmp_object.ne.bind (.ref x))
  split
  · exact wpAny_bind (bd.here (wpAny_pure (by exact fin)))
  · exact wpAny_tryCatch (wpAny_bind (bd.here (wpAny_pure (by exact fin))))
theorem ne_K {prog : Program} {w : World} {A : Around} {E : Value → Shared → Prop} {s : Shared} {K : PySem.W.Frag} {x C f : Addr} {ox : Obj} {od : Option Obj} {b tb : Value} {Q : Value → Shared → Prop} (hu : A.in1.units < cLine) (hu0 : A.units < cLine) (X : K.In s.heap) (I : PySem.W.InstAt s.heap x ox C od)
    (hb : Looks (model prog w) s.heap (typeOf b) tb) (hn : PySem.W.notFirst K C tb = true) (hne : PySem.W.findIn K (.ref C) "__ne__" = some (some (.builtin "object.__ne__"))) (hob : PySem.W.subIn K (.ref C) (.type "object") = some true)
    (hs : PySem.W.findIn K (.ref C) "__eq__" = some (some (.ref f))) (hf : PySem.W.isFn K (.ref f) = true)
    (h : wpAny (model prog w) A.in1 (call (.ref f) [.ref x, b]) (fun v s' => ∃ t, v = .bool t ∧ Q (.bool (!t)) s') E s) : wpAny (model prog w) A (richCompare .NotEq (.ref x) b) Q E s := by
  have sub : Looks (model prog w) s.heap (isInstance (.ref x) (.type "object")) true := I.type.andThen (PySem.W.looks_subIn X hob)
  have body : wpAny (model prog w) A (call (.builtin "object.__ne__") [.ref x, b]) (fun v s' => ∃ t, v = .bool t ∧ Q (.bool t) s') E s := by
    refine wpAny_call (codeAny_call_builtin PySem.F.cmp_object.ne.plain PySem.F.cmpEntry_ne ?_)
    refine @PySem.W.check_slot (model prog w) _ _ s "object.__ne__" "object" "__ne__" (.ref x) [b] [] _ PySem.F.cmpKind_ne PySem.F.cmpSplit_ne sub (PySem.F.cmpArgs_ne _ _) ?_
    unfold Builtin.«object.__ne__»
    refine wpAny_bind (wpAny_of_eq (a := ((Value.ref x : Value), [b])) (by first | rfl | (simp only [slotArgs]; rfl)) ?_)
    refine wpAny_bind (wpAny_cRoomFor hu ?_)
    refine wpAny_bind (PySem.W.ifBound_K X I hs hf (wpAny_mono h (fun v s' hv => ?_) fun _ _ e => e))
    obtain ⟨t, rfl, q⟩ := hv
    refine wpAny_bind (wpAny_truthy_bool ?_)
    first
      | exact wpAny_pure ⟨_, rfl, q⟩
      | exact wpAny_pure ⟨_, rfl, _, rfl, q⟩
      | exact wpAny_pure (wpAny_pure ⟨_, rfl, q⟩)
  have one : wpAny (model prog w) A (tryCompare (.ref x) (cmpInfo .NotEq).2.1 b) (fun r s' => ∃ v, r = some v ∧ ∃ t, v = .bool t ∧ Q (.bool t) s') E s := by
    show wpAny (model prog w) A (tryCompare (.ref x) "__ne__" b) _ _ _
    unfold tryCompare
    refine wpAny_bind (ifBound_ne X I hne (wpAny_mono body (fun v s' hv => ?_) fun _ _ e => e))
    obtain ⟨t, rfl, q⟩ := hv
    exact wpAny_pure ⟨_, rfl, _, rfl, q⟩
  unfold richCompare
  simp only [oneThing_ref]
  refine wpAny_holding (wpAny_bind (wpAny_cRoomFor hu0 ?_))
  refine wpAny_bind (I.type.here (wpAny_bind (hb.here ?_)))
  split
  · rename_i q
    have e : PySem.W.subIn K tb (.ref C) = some false := by
      rcases Bool.or_eq_true_iff.mp hn with e | e
      · rw [beq_iff_eq.mp e] at q; simp at q
      · exact beq_iff_eq.mp e
    refine wpAny_bind ((PySem.W.looks_subIn X e).here ?_)
    simp only [Bool.false_eq_true, if_false]
    refine wpAny_bind (wpAny_mono one (fun r s' z => ?_) fun _ _ e => e)
    obtain ⟨v, rfl, t, rfl, hq⟩ := z
    exact wpAny_pure hq
  · refine wpAny_bind (wpAny_pure ?_)
    simp only [Bool.false_eq_true, if_false]
    refine wpAny_bind (wpAny_mono one (fun r s' z => ?_) fun _ _ e => e)
    obtain ⟨v, rfl, t, rfl, hq⟩ := z
    exact wpAny_pure hq
theorem oeq_core (TO : TOk T) (C : COk T L X) (HF : AllF T Φ L) {neg : Bool} {g : Mu} {I F H : Hp} {st : Sto} {env : Mi.Env} {σ : HS} {x y : MV} {v w : V} {Q : Post} {XP : Xp} {pins : List (Addr × Obj)} {s : Shared} {u1 u2 : Value} {R : Value → Shared → Prop} (er : ER T X XP g I F env σ) (S : T.Sim g I F H st)
    (r1 : RepV T.K g I x v) (r2 : RepV T.K g I y w) (I2 : Inv X pins σ H s) (ru1 : RelV v u1) (ru2 : RelV w u2)
    (q : ∃ n c fs q, x = .ref n ∧ st[n]? = some (.ins c fs) ∧ T.P.mt c "__eq__" = some q ∧ eqOk st c y ∧ Φ q [x, y] st (fun v st3 => ∃ t, v = .bl t ∧ Q (.bl (if neg then !t else t)) st3) XP)
    (hR : ∀ (t : Bool) (s' : Shared), (∃ H', Inv X pins σ H' s' ∧ T.QV g I F Q (.bl t) H') → R (.bool t) s') : wpAny (model X.prog X.w) X.A (compareOp (if neg then .NotEq else .Eq) u1 u2) R X.xe s := by
  obtain ⟨n, c, fs, qn, rfl, hs, hq, hok, q2⟩ := q
  obtain ⟨p, hp, rfl⟩ := r1
  cases ru1
  obtain ⟨Cl, dx, ws, hc, hH, rf⟩ := S.at_ hp hs
  obtain ⟨Cl', fa, hc', hfa, M, hfn⟩ := TO.mt c _ qn hq
  rw [hc] at hc'; cases hc'
  obtain ⟨mA, O, _⟩ := ins_get I2.hok hH
  obtain ⟨od, J, _⟩ := O.look
  obtain ⟨mm, Fm⟩ := frm I2
  have OF := TO.own c Cl hc
  rw [← C.K] at M OF
  have looks : ∃ tb, Looks (model X.prog X.w) s.heap (typeOf u2) tb ∧ PySem.W.notFirst X.K Cl tb = true := by
    rcases hok with ho | ho
    · rcases ty_any TO C S r2 ho with ⟨_, n, hn, ht⟩ | ⟨_, _, e, _⟩
      · obtain ⟨P, kx, hP, _⟩ := L2.kit_of I2 ru2 ht
        exact ⟨_, kx.ty _ _ I2.kIn hP, by unfold PySem.W.notFirst; rw [sub_bi hn]; simp⟩
      · cases e
    · rcases ty_any TO C S r2 ho with ⟨e, _⟩ | ⟨c', D, e, hD, ht⟩
      · cases e
      · cases e
        rw [hc] at hD; cases hD
        obtain ⟨P, kx, hP, _⟩ := L2.kit_of I2 ru2 ht
        exact ⟨_, kx.ty _ _ I2.kIn hP, by unfold PySem.W.notFirst; simp⟩
  obtain ⟨tb, hb, hnf⟩ := looks
  have rr : RepVs T.K g I [.ref n, y] [V.ref p, w] := ⟨_, _, rfl, ⟨p, hp, rfl⟩, _, _, rfl, r2, rfl⟩
  cases neg with
  | false =>
    show wpAny _ _ (richCompare .Eq (.ref p) u2) _ _ _
    refine PySem.W.cmp_K (op := .Eq) C.r0.units0 Fm I2.ok.mod.kin J hb hnf M.at_ M.fn ?_
    exact thn (fnc_run C (HF _ _ hfa) (us := [.ref p, u2]) (vs := [.ref p, w]) er (fun _ _ z => z) C.r0 C.gu I2.env0 I2 (.cons rfl (.cons ru2 .nil)) S rr q2) fun u s' ⟨z, H3, I3, r3, g3, m3, xm, st3, a3, b3, S3, r4, t, et, q3⟩ => by
      subst et
      cases r4
      cases r3
      exact hR t s' ⟨H3, I3, QV.from_ a3 b3 (QV.bl S3 q3)⟩
  | true =>
    show wpAny _ _ (richCompare .NotEq (.ref p) u2) _ _ _
    refine ne_K C.rin.units0 C.r0.units0 I2.kIn J hb hnf OF.ne OF.ob M.at_ M.fn ?_
    exact thn (fnc_run C (HF _ _ hfa) (us := [.ref p, u2]) (vs := [.ref p, w]) er (fun _ _ z => z) C.rin C.gu I2.env0.in1 I2 (.cons rfl (.cons ru2 .nil)) S rr q2) fun u s' ⟨z, H3, I3, r3, g3, m3, xm, st3, a3, b3, S3, r4, t, et, q3⟩ => by
      subst et
      cases r4
      cases r3
      exact ⟨t, rfl, hR (!t) s' ⟨H3, I3, QV.from_ a3 b3 (QV.bl S3 q3)⟩⟩
theorem good_oeq (TO : TOk T) (C : COk T L X) (HF : AllF T Φ L) {neg : Bool} {a b : IE} {l r : Expr} {pos : Pos} (ha : GoodE T Φ X a l) (hb : GoodE T Φ X b r) (hm : behindInMarks (if neg then .NotEq else .Eq) r = false) :
    GoodE T Φ X (.oeq neg a b) (.Compare l [if neg then .NotEq else .Eq] [r] pos) := by
  intro g I F H st env σ Q XP er S q pins s I0
  exact wpAny_Compare1 (thn (ha g I F H st env σ _ _ er S q pins s I0) fun u1 s1 ⟨v, H1, I1, ru1, g1, m1, x, st1, a1, b1, S1, r1, q1⟩ => thn (hb g1 m1 F H1 st1 env σ _ _ (er.mono a1 b1) S1 q1 pins s1 I1) fun u2 s2 ⟨w, H2, I2, ru2, g2, m2, y, st2, a2, b2, S2, r2, q2⟩ =>
    oeq_core TO C HF (er.mono (a1.trans a2) (b1.trans b2)) S2 (r1.mono a2 b2) r2 I2 ru1 ru2 q2 fun t s' ⟨H', I', q'⟩ => ⟨.bl t, H', I', rfl, QV.from_ (a1.trans a2) (b1.trans b2) q'⟩) hm
theorem good_oeqT (TO : TOk T) (C : COk T L X) (HF : AllF T Φ L) {neg : Bool} {a b : IE} {l r : Expr} {pos : Pos} (ha : GoodE T Φ X a l) (hb : GoodE T Φ X b r) (hm : behindInMarks (if neg then .NotEq else .Eq) r = false) :
    GoodT T Φ X (.oeq neg a b) (.Compare l [if neg then .NotEq else .Eq] [r] pos) := by
  intro g I F H st env σ R XP er S q pins s I0
  exact wpAny_isTrue_Compare1 (thn (ha g I F H st env σ _ _ er S q pins s I0) fun u1 s1 ⟨v, H1, I1, ru1, g1, m1, x, st1, a1, b1, S1, r1, q1⟩ => thn (hb g1 m1 F H1 st1 env σ _ _ (er.mono a1 b1) S1 q1 pins s1 I1) fun u2 s2 ⟨w, H2, I2, ru2, g2, m2, y, st2, a2, b2, S2, r2, q2⟩ =>
    oeq_core (Q := fun x st1 => ∃ t, truth st1 x = some t ∧ R t x st1) TO C HF (er.mono (a1.trans a2) (b1.trans b2)) S2 (r1.mono a2 b2) r2 I2 ru1 ru2 q2 fun t s' ⟨H', I', g3, m3, xm, st3, a3, b3, S3, r3, t', ht, q3⟩ => PySem.wpAny_truthy_bool (by
      have e : xm = .bl t := by
        cases xm <;> first | (cases r3; rfl) | (obtain ⟨_, _, e, _⟩ := r3; cases e) | (obtain ⟨_, _, e⟩ := r3; cases e) | cases r3
      subst e
      cases ht
      exact ⟨H', I', g3, m3, .bl t, st3, (a1.trans a2).trans a3, (b1.trans b2).trans b3, S3, rfl, q3⟩)) hm
end
end Snd
-- SR
namespace Snd
open PySem L2 Mi

/-! ### exceptions made, not raised -/
section
open PySem.W PySem.Calls PyProof.Rows PyProof.V PySem.Spec
variable {X : Cx}
theorem pe_of_pmk {e : Expr} {t : HS → Hp → XK → Prop} (hm : PMk X e t) : PE X e (fun σ H Q => t σ H fun cls d H' => ∀ a, H' a = none → Q (.ref a) (upd H' a (XO cls d a))) := by
  refine ⟨fun pins s σ H Q I h => thn (hm pins s σ H _ I h) fun u s' hu => ?_⟩
  obtain ⟨a, oe, vs, sI, H', cls, d, rfl, J, k, hne, ha, hz, hd, h1, na, os, ag, r, q⟩ := hu
  have J2 : Inv X pins σ (upd H' a (XO cls d a)) { sI with heap := s'.heap, toks := s'.toks } := J.laidN k hne na ⟨⟨oe, vs, ha, hz, hd⟩, ⟨oe, ha⟩, fun _ _ ⟨o, v, q, r⟩ k => ⟨o, v, k _ q, r⟩⟩
  exact ⟨.ref a, _, ⟨J2.ok, os.trans J2.os, ag, J2.base, J2.loc, J2.cell, J2.free, J2.freeC, J2.pin, J2.hok, J2.len⟩, rfl, q a na⟩
end
section
variable {T : Tab} {Φ : Phi} {L : Nat} {X : Cx}
theorem good_mkx (TO : TOk T) (C : COk T L X) {c : String} {ie : IE} {e : Expr} {p pos : Pos} (h : GoodA T Φ X (.cons ie .nil) [e]) (hg : Gl X (Str.ofString c)) (hc : T.G.xcl.contains c = true) (hdb : (Str.ofString c == ("__debug__" : Str)) = false)
    (he : starEach [e] X.env = (false, eval e X.env) :: starEach [] X.env) : GoodE T Φ X (.mkx c ie) (.Call (.Name (Str.ofString c) p) [e] [] pos) := by
  intro g I F H st env σ Q XP er S q
  obtain ⟨Cc, hx, hm, O, hsu⟩ := TO.exc c hc
  have q : wpA T.P Φ (.cons ie .nil) env st (fun vs st1 => ∃ v, vs = [v] ∧ Q (.ref st1.length) (st1 ++ [.exc c v])) XP := by
    have z : wpE T.P Φ ie env st (fun v st1 => Q (.ref st1.length) (st1 ++ [.exc c v])) XP := q
    show wpE T.P Φ ie env st (fun v st1 => ∃ w, [v] = [w] ∧ Q (.ref st1.length) (st1 ++ [.exc c w])) _
    have ef : (fun (v : MV) (st1 : Sto) => Q (.ref st1.length) (st1 ++ [.exc c v])) = (fun v st1 => ∃ w, [v] = [w] ∧ Q (.ref st1.length) (st1 ++ [.exc c w])) := by
      funext v st1
      exact propext ⟨fun z => ⟨v, rfl, z⟩, fun ⟨w, e1, z⟩ => by cases e1; exact z⟩
    rw [← ef]; exact z
  refine run_E (pe_of_pmk (pmk_box (f := "value") (by rw [C.pr, C.K]; exact O) (by rw [C.mg]; exact hsu) (C.room.mono (by omega)) hg (by rw [C.mg]; exact hm) rA hdb he)) ?_
  refine h.then_ er S q fun g1 I1 H1 st1 xs vs a1 b1 S1 er1 r1 ⟨x, ex, q1⟩ => ?_
  subst ex
  obtain ⟨v, rfl, rv⟩ := r1.one
  refine ⟨v, rfl, fun d hd a ha => ?_⟩
  have S2 := S1.frozen (u := .xd [("value", v)]) hd
  have le := fresh_le (u := .xd [("value", v)]) S1.ih hd
  have xr : ExR T g1 (upd I1 d (.xd [("value", v)])) c x (.ref Cc) (some d) := ⟨Cc, d, v, hx, rfl, rfl, upd_same, rv.mono (LeM.refl _) le⟩
  have S3 := caught_sim S2 xr ha
  exact QV.from_ (a1.trans (gAdd_le S2.no)) (b1.trans le) (QV.ref S3 (by unfold gAdd; rw [if_pos rfl]) q1)
theorem good_mkb (TO : TOk T) (C : COk T L X) {ie : IE} {e : Expr} {p pos : Pos} (h : GoodA T Φ X (.cons ie .nil) [e]) (hg : Gl X "ValueError")
    (he : starEach [e] X.env = (false, eval e X.env) :: starEach [] X.env) : GoodE T Φ X (.mkb ie) (.Call (.Name "ValueError" p) [e] [] pos) := by
  intro g I F H st env σ Q XP er S q
  have q : wpA T.P Φ (.cons ie .nil) env st (fun vs st1 => ∃ v, vs = [v] ∧ Q (.ref st1.length) (st1 ++ [.bex])) XP := by
    have z : wpE T.P Φ ie env st (fun v st1 => Q (.ref st1.length) (st1 ++ [.bex])) XP := q
    show wpE T.P Φ ie env st (fun v st1 => ∃ w, [v] = [w] ∧ Q (.ref st1.length) (st1 ++ [.bex])) _
    have ef : (fun (v : MV) (st1 : Sto) => Q (.ref st1.length) (st1 ++ [.bex])) = (fun v st1 => ∃ w, [v] = [w] ∧ Q (.ref st1.length) (st1 ++ [.bex])) := by
      funext v st1
      exact propext ⟨fun z => ⟨v, rfl, z⟩, fun ⟨w, e1, z⟩ => by cases e1; exact z⟩
    rw [← ef]; exact z
  refine run_E (pe_of_pmk (pmk_exb exb_ValueError hg (by rw [C.mg]; exact TO.ven) (by decide +kernel) rA (by decide +kernel) (by decide +kernel) he rfl)) ?_
  refine h.then_ er S q fun g1 I1 H1 st1 xs vs a1 b1 S1 er1 r1 ⟨x, ex, q1⟩ => ?_
  subst ex
  obtain ⟨v, rfl, rv⟩ := r1.one
  refine ⟨by rw [sizeLine_eq]; show 1 ≤ _; omega, fun a ha => ?_⟩
  have S3 : T.Sim (gAdd g1 st1.length a) I1 F (upd H1 a (XO (.type "ValueError") none a)) (st1 ++ [.bex]) := S1.new ha upd_same
  exact QV.from_ (a1.trans (gAdd_le S1.no)) b1 (QV.ref S3 (by unfold gAdd; rw [if_pos rfl]) q1)
theorem good_isv (TO : TOk T) (C : COk T L X) {a : IE} {y : Expr} {p p2 pos : Pos} (ha : GoodE T Φ X a y) (hg : Gl X (Str.ofString "isinstance")) (hz : Gl X "ValueError") (hs : noStar [y] = true) :
    GoodE T Φ X (.isv a) (.Call (.Name (Str.ofString "isinstance") p) [y, .Name "ValueError" p2] [] pos) := by
  intro g I F H st env σ Q XP er S q
  have hty : PE X (.Name "ValueError" p2) (fun _ H Q => Q (.ty "ValueError") H) := ⟨fun pins s σ H Q I0 h => ld_blt I0 hz (by rw [C.mg]; exact TO.ven) (by decide +kernel) ⟨.ty "ValueError", H, I0, rfl, h⟩ (by decide +kernel) (by decide +kernel)⟩
  have hs2 : starEach [y, .Name "ValueError" p2] X.env = (false, eval y X.env) :: starEach [.Name "ValueError" p2] X.env := by
    cases y <;> first | rfl | exact absurd hs Bool.false_ne_true
  refine run_E (pe_callB call_isXN hg (by rw [C.mg]; exact TO.isi) (by show bootBuiltins "isinstance" = _; decide +kernel) (pa_cons rE (pa_cons hty pa_nil) hs2) (by decide +kernel) (by decide +kernel) hs2 rfl) ?_
  refine ha.then_ er S q fun g1 I1 H1 st1 ym v a1 b1 S1 er1 r1 q1 => ?_
  obtain ⟨⟨n, rfl, hst⟩, q2⟩ := q1
  obtain ⟨q0, hp, rfl⟩ := r1
  rcases hst with ⟨c, x, hst⟩ | hst
  · obtain ⟨D, dd, w, hx, hH, hdd, rv⟩ := S1.at_ hp hst
    obtain ⟨Ex, _, _⟩ := TO.xk c D hx
    have hk : PySem.W.kitOne T.K (.ref D) (.type "ValueError") = some true := by
      unfold PySem.W.kitOne
      rw [if_neg (show ¬ ((Value.ref D == Value.type "ValueError") = true) from fun h => Value.noConfusion (beq_iff_eq.mp h))]
      unfold PySem.W.kitCls
      have e : PySem.W.kitMeta "ValueError" = true := by kernel_rfl
      simp only [e, if_true]
      exact TO.xv c D hx
    exact .inr (.inr ⟨q0, D, dd, .ty "ValueError", .type "ValueError", true, _, rfl, fun u r => r, hH, S1.ih _ _ hdd, by rw [C.K]; exact Ex, by rw [C.K]; exact hk, QV.from_ a1 b1 (QV.bl S1 q2)⟩)
  · exact .inr (.inl ⟨q0, .ty "ValueError", .type "ValueError", true, rfl, fun u r => r, S1.at_ hp hst, by rw [C.K]; exact if_pos (beq_self_eq_true _), QV.from_ a1 b1 (QV.bl S1 q2)⟩)
end
end Snd
-- S21
namespace Snd
open PySem L2 Mi

/-! ### the text matched -/
def nodbg (x : Str) : Bool := !(x == ("__debug__" : Str))
def ownP (N : List Str) (own : List Nat) : List (Str × Nat) := own.map fun i => ((N[i]?).getD "", i)
theorem ownP_snd (N : List Str) (own : List Nat) : (ownP N own).map (·.2) = own := by simp [ownP, List.map_map, Function.comp_def]
def fnOf (scope : Scope) : Str → Bool := fun x => scope.names.lookup x == some .cell
def isTupE : Expr → Bool
  | .Tuple _ _ _ => true
  | _ => false
mutual
def bE (G : MT) : IE → List Str → Scope → (Str → Bool) → Expr → Bool
  | .var i, N, sc, fn, e => (match e with
    | .Name x _ => decide (N[i]? = some x) && isVis sc x && nodbg x && !(x == ("__classdict__" : Str))
    | _ => false)
  | .con v, N, sc, fn, e => (match e with
    | .Constant c _ _ => constIs c v
    | .Name x _ => isGl sc x && nodbg x && (match G.gl.lookup x with | some w => scEq v w && scalar v | none => false)
    | _ => false)
  | .tup es, N, sc, fn, e => (match e with
    | .Tuple xs _ _ => bA G es N sc fn xs
    | _ => false)
  | .lst es, N, sc, fn, e => (match e with
    | .List xs _ => bA G es N sc fn xs
    | _ => false)
  | .dic ps, N, sc, fn, e => (match e with
    | .Dict ks vs _ => bP G ps N sc fn ks vs && decide (ks.length ≤ 15) && (match ps with | .nil => ks.isEmpty && vs.isEmpty | _ => !ks.isEmpty)
    | _ => false)
  | .bin o a b, N, sc, fn, e => (match e with
    | .BinOp l p r _ => bopIs o p && bE G a N sc fn l && bE G b N sc fn r
    | _ => false)
  | .neg a, N, sc, fn, e => (match e with
    | .UnaryOp .USub x _ => bE G a N sc fn x
    | _ => false)
  | .cmp o a b, N, sc, fn, e => (match e with
    | .Compare l [p] [r] _ => copIs o p && bE G a N sc fn l && bE G b N sc fn r && okCmp o r
    | _ => false)
  | .chn o1 o2 a b c, N, sc, fn, e => (match e with
    | .Compare l [p1, p2] [r1, r2] _ => copIs o1 p1 && copIs o2 p2 && bE G a N sc fn l && bE G b N sc fn r1 && bE G c N sc fn r2 && okCmp o2 r2
    | _ => false)
  | .and a b, N, sc, fn, e => (match e with
    | .BoolOp .And [x, y] _ => bE G a N sc fn x && bE G b N sc fn y
    | .BoolOp .And (x :: y :: z :: r) pos => bE G a N sc fn x && bE G b N sc fn (.BoolOp .And (y :: z :: r) pos)
    | _ => false)
  | .or a b, N, sc, fn, e => (match e with
    | .BoolOp .Or [x, y] _ => bE G a N sc fn x && bE G b N sc fn y
    | .BoolOp .Or (x :: y :: z :: r) pos => bE G a N sc fn x && bE G b N sc fn (.BoolOp .Or (y :: z :: r) pos)
    | _ => false)
  | .not a, N, sc, fn, e => (match e with
    | .UnaryOp .Not x _ => bE G a N sc fn x
    | _ => false)
  | .ite c a b, N, sc, fn, e => (match e with
    | .IfExp x y z _ => bE G c N sc fn x && bE G a N sc fn y && bE G b N sc fn z
    | _ => false)
  | .sub a i, N, sc, fn, e => (match e with
    | .Subscript x y _ => bE G a N sc fn x && bE G i N sc fn y && okIx y
    | _ => false)
  | .sli a lo hi, N, sc, fn, e => (match e with
    | .Subscript x (.Slice l h none _) _ => bE G a N sc fn x && bO G lo N sc fn l && bO G hi N sc fn h
    | _ => false)
  | .rev a, N, sc, fn, e => (match e with
    | .Subscript x (.Slice none none (some (.UnaryOp .USub (.Constant (.int n) _ _) _)) _) _ => bE G a N sc fn x && decide (n = 1)
    | _ => false)
  | .fld a f, N, sc, fn, e => (match e with
    | .Attribute x g _ => bE G a N sc fn x && (g == Str.ofString f) && okBase x
    | _ => false)
  | .call f es, N, sc, fn, e => (match e with
    | .Call (.Name x _) xs [] _ => (x == Str.ofString f) && isGl sc x && G.fns.contains f && bA G es N sc fn xs && noStar xs && nodbg x && (match es with | .nil => xs.isEmpty | _ => !xs.isEmpty)
    | _ => false)
  | .new c es, N, sc, fn, e => (match e with
    | .Call (.Name x _) xs [] _ => (x == Str.ofString c) && isGl sc x && G.cls.contains c && bA G es N sc fn xs && noStar xs && nodbg x && (match es with | .nil => xs.isEmpty | _ => !xs.isEmpty)
    | _ => false)
  | .mth a m es, N, sc, fn, e => (match e with
    | .Call (.Attribute x g ap) xs [] p => bE G a N sc fn x && (g == Str.ofString m) && okBase x && bA G es N sc fn xs && noStar xs && (ap.endLine == p.line) && decide (xs.length < 20) && (match es with | .nil => xs.isEmpty | _ => !xs.isEmpty)
    | _ => false)
  | .bmt a m es, N, sc, fn, e => (match e with
    | .Call (.Attribute x g ap) ys [] p => bE G a N sc fn x && (g == Str.ofString (mname m)) && okBase x && bA G es N sc fn ys && noStar ys && (ap.endLine == p.line) && decide (ys.length < 20) && (match es with | .nil => ys.isEmpty | _ => !ys.isEmpty)
    | _ => false)
  | .blt b es, N, sc, fn, e => (match e with
    | .Call (.Name x _) (y :: ys) [] _ => (x == Str.ofString (bname b)) && isGl sc x && bA G es N sc fn (y :: ys) && noStar (y :: ys)
    | _ => false)
  | .isi a t, N, sc, fn, e => (match e with
    | .Call (.Name x _) [y, .Name z _] [] _ => (x == Str.ofString "isinstance") && isGl sc x && bE G a N sc fn y && (z == Str.ofString (tyName t)) && isGl sc z && noStar [y] && nodbg z && !(z == ("__name__" : Str)) && (match t with | .own _ => false | _ => true)
    | _ => false)
  | .lrg a, N, sc, fn, e => (match e with
    | .Call (.Name x _) [.Call (.Name y _) [z] [] _] [] _ => (x == Str.ofString "list") && isGl sc x && (y == Str.ofString "range") && isGl sc y && bE G a N sc fn z && noStar [z]
    | _ => false)
  | .lc elt tg it cond own, N, sc, fn, e => (match e with
    | .ListComp x [⟨t, i, ifs, 0⟩] scope _ => blkC N sc scope (ownP N own) && tgM N (relS scope sc) (fnOf scope) tg t && (slots tg).all (own.contains ·) && bC G cond N (relS scope sc) (fnOf scope) ifs && bE G elt N (relS scope sc) (fnOf scope) x && noSet i && bI G it N sc fn t i && !(fnOf scope "!")
    | _ => false)
  | .dc k v tg it own, N, sc, fn, e => (match e with
    | .DictComp x y [⟨t, i, [], 0⟩] scope _ => blkC N sc scope (ownP N own) && tgM N (relS scope sc) (fnOf scope) tg t && (slots tg).all (own.contains ·) && bE G k N (relS scope sc) (fnOf scope) x && bE G v N (relS scope sc) (fnOf scope) y && noSet i && bI G it N sc fn t i && !(fnOf scope "!")
    | _ => false)
  | .heard f a, N, sc, fn, e => (match e with
    | .Call (.Name x _) [.Lambda params body scope _] [] _ => G.hrd.contains x && isGl sc x && nodbg x && noArgs params && LamX.lamSB sc scope && G.lam.contains N && fn "!" && bE G a N scope (fun _ => false) body
    | _ => false)
  | .lit a, N, sc, fn, e => (match e with
    | .Call (.Name x _) [.Call (.Attribute z m ap) [] [] cp] [] _ => (x == Str.ofString "list") && isGl sc x && (m == Str.ofString "items") && bE G a N sc fn z && okBase z && (ap.endLine == cp.line)
    | _ => false)
  | .ino neg a b, N, sc, fn, e => (match e with
    | .Compare l [p] [r] _ => copIs (if neg then .nin else .inn) p && bE G a N sc fn l && bE G b N sc fn r && okCmp (if neg then .nin else .inn) r
    | _ => false)
  | .lzip a b, N, sc, fn, e => (match e with
    | .Call (.Name x _) [.Call (.Name y _) [l, r] [] _] [] _ => (x == Str.ofString "list") && isGl sc x && (y == Str.ofString "zip") && isGl sc y && bE G a N sc fn l && bE G b N sc fn r && noStar [l, r]
    | _ => false)
  | .oeq neg a b, N, sc, fn, e => (match e with
    | .Compare l [p] [r] _ => copIs (if neg then .ne else .eq) p && bE G a N sc fn l && bE G b N sc fn r && okCmp (if neg then .ne else .eq) r
    | _ => false)
  | .olen a, N, sc, fn, e => (match e with
    | .Call (.Name x _) [y] [] _ => (x == Str.ofString "len") && isGl sc x && bE G a N sc fn y && noStar [y]
    | _ => false)
  | .iso a c, N, sc, fn, e => (match e with
    | .Call (.Name x _) [y, .Name z _] [] _ => (x == Str.ofString "isinstance") && isGl sc x && bE G a N sc fn y && (z == Str.ofString c) && isGl sc z && noStar [y] && nodbg z && G.cls.contains c
    | _ => false)
  | .mkx c a, N, sc, fn, e => (match e with
    | .Call (.Name x _) [y] [] _ => (x == Str.ofString c) && isGl sc x && bE G a N sc fn y && noStar [y] && nodbg x && G.xcl.contains c
    | _ => false)
  | .mkb a, N, sc, fn, e => (match e with
    | .Call (.Name x _) [y] [] _ => (x == ("ValueError" : Str)) && isGl sc x && bE G a N sc fn y && noStar [y]
    | _ => false)
  | .isv a, N, sc, fn, e => (match e with
    | .Call (.Name x _) [y, .Name z _] [] _ => (x == Str.ofString "isinstance") && isGl sc x && bE G a N sc fn y && (z == ("ValueError" : Str)) && isGl sc z && noStar [y]
    | _ => false)
  | .lset a, N, sc, fn, e => (match e with
    | .Call (.Name x _) [.Call (.Name y _) [z] [] _] [] _ => (x == Str.ofString "len") && isGl sc x && (y == Str.ofString "set") && isGl sc y && bE G a N sc fn z && noStar [z]
    | _ => false)
  | .lstT o a w r, N, sc, fn, e => (match e with
    | .List (.BinOp l p (.Constant (.str c) _ _) _ :: xs) _ => bopIs o p && (c == toS w) && bE G a N sc fn l && bAT G r N sc fn xs
    | _ => false)
  | .isx a c, N, sc, fn, e => (match e with
    | .Call (.Name x _) [y, .Name z _] [] _ => (x == Str.ofString "isinstance") && isGl sc x && bE G a N sc fn y && (z == Str.ofString c) && isGl sc z && noStar [y] && nodbg z && G.xis.contains c
    | _ => false)
def bA (G : MT) : IA → List Str → Scope → (Str → Bool) → List Expr → Bool
  | .nil, N, sc, fn, xs => xs.isEmpty
  | .cons e r, N, sc, fn, xs => (match xs with
    | x :: xs => noStar [x] && bE G e N sc fn x && bA G r N sc fn xs
    | _ => false)
  | .star e r, N, sc, fn, xs => (match xs with
    | .Starred x _ :: xs => bE G e N sc fn x && bA G r N sc fn xs
    | _ => false)
  | .rep a c z r, N, sc, fn, xs => false
/-- behind a token -/
def bAT (G : MT) : IA → List Str → Scope → (Str → Bool) → List Expr → Bool
  | .nil, N, sc, fn, xs => xs.isEmpty
  | .cons e r, N, sc, fn, xs => (match xs with
    | x :: xs => noStar [x] && bE G e N sc fn x && bAT G r N sc fn xs
    | _ => false)
  | .star e r, N, sc, fn, xs => false
  | .rep a c z r, N, sc, fn, xs => (match xs with
    | .Call (.Attribute o g ap) [.Constant (.str y) _ _, .Constant (.str w) _ _] [] p :: xs => (g == Str.ofString "replace") && (y == toS [c]) && (w == toS z) && decide ([c] ≠ z) && okBase o && (ap.endLine == p.line) && bE G a N sc fn o && bAT G r N sc fn xs
    | _ => false)
def bP (G : MT) : IP → List Str → Scope → (Str → Bool) → List (Option Expr) → List Expr → Bool
  | .nil, N, sc, fn, ks, vs => ks.isEmpty && vs.isEmpty
  | .cons k v r, N, sc, fn, ks, vs => (match ks, vs with
    | some x :: ks, y :: vs => bE G k N sc fn x && bE G v N sc fn y && bP G r N sc fn ks vs
    | _, _ => false)
def bO (G : MT) : IO → List Str → Scope → (Str → Bool) → Option Expr → Bool
  | .non, N, sc, fn, e => e.isNone
  | .som a, N, sc, fn, e => (match e with
    | some x => bE G a N sc fn x
    | none => false)
/-- the conditions of a comprehension -/
def bC (G : MT) : IO → List Str → Scope → (Str → Bool) → List Expr → Bool
  | .non, N, sc, fn, xs => xs.isEmpty
  | .som a, N, sc, fn, xs => (match xs with
    | [x] => bE G a N sc fn x
    | _ => false)
def bI (G : MT) : II → List Str → Scope → (Str → Bool) → Expr → Expr → Bool
  | .ev a, N, sc, fn, t, e => bE G a N sc fn e
  | .rng a, N, sc, fn, t, e => (match e with
    | .Call (.Name x _) [y] [] _ => (x == Str.ofString "range") && isGl sc x && noStar [y] && bE G a N sc fn y
    | _ => false)
  | .rng2 a b, N, sc, fn, t, e => (match e with
    | .Call (.Name x _) [y, z] [] _ => (x == Str.ofString "range") && isGl sc x && noStar [y, z] && bE G a N sc fn y && bE G b N sc fn z
    | _ => false)
  | .enu a, N, sc, fn, t, e => (match e with
    | .Call (.Name x _) [y] [] _ => (x == Str.ofString "enumerate") && isGl sc x && noStar [y] && bE G a N sc fn y && isTupE t
    | _ => false)
  | .zip a b, N, sc, fn, t, e => (match e with
    | .Call (.Name x _) [y, z] [] _ => (x == Str.ofString "zip") && isGl sc x && noStar [y, z] && bE G a N sc fn y && bE G b N sc fn z && isTupE t
    | _ => false)
  | .keys p, N, sc, fn, t, e => bE G p N sc fn e
  | .items p, N, sc, fn, t, e => (match e with
    | .Call (.Attribute x m ap) [] [] cp => (m == Str.ofString "items") && bE G p N sc fn x && okBase x && (ap.endLine == cp.line) && isTupE t
    | _ => false)
  | .vals p, N, sc, fn, t, e => (match e with
    | .Call (.Attribute x m ap) [] [] cp => (m == Str.ofString "values") && bE G p N sc fn x && okBase x && (ap.endLine == cp.line)
    | _ => false)
end

section
variable {T : Tab} {Φ : Phi} {L : Nat}
structure Res (T : Tab) (Φ : Phi) (X : Cx) (ie : IE) (e : Expr) : Prop where
  ge : GoodE T Φ X ie e
  gt : GoodT T Φ X ie e
  gw : (∃ op xs p, e = .BoolOp op xs p) → GoodW T Φ X ie e
def plainT : Expr → Bool
  | .UnaryOp .Not _ _ => false
  | .BoolOp _ _ _ => false
  | .IfExp _ _ _ _ => false
  | .Compare _ _ _ _ => false
  | _ => true
theorem plain_he {e : Expr} (h : plainT e = true) (env : PySem.Env) (whole : Sem Value) : isTrue e env whole = (do let v ← whole; standAt e.pos; holding [v] (truthy v)) := by
  cases e with
  | UnaryOp op x p => cases op <;> first | rfl | exact absurd h Bool.false_ne_true
  | BoolOp => exact absurd h Bool.false_ne_true
  | IfExp => exact absurd h Bool.false_ne_true
  | Compare => exact absurd h Bool.false_ne_true
  | _ => rfl
theorem Res.plain {X : Cx} (C : COk T L X) {ie : IE} {e : Expr} (h : GoodE T Φ X ie e) (hp : plainT e = true) : Res T Φ X ie e :=
  ⟨h, good_truth C h (plain_he hp _), fun ⟨op, xs, p, z⟩ => by subst z; exact absurd hp Bool.false_ne_true⟩
/-- where one stands, told by the scope -/
structure At (T : Tab) (L : Nat) (X : Cx) (N : List Str) (sc : Scope) (fn : Str → Bool) : Prop where
  ok : COk T L X
  n : X.N = N
  s : X.env.scope = sc
  f : X.fn = fn
  lam : T.G.lam.contains N = true → fn "!" = true → LamOk T L X
theorem gl_ok {X : Cx} {N : List Str} {sc : Scope} {fn : Str → Bool} (A : At T L X N sc fn) {x : Str} (h : isGl sc x = true) : Gl X x := by
  unfold isGl at h
  show X.env.scope.names.lookup x = _
  rw [A.s]
  split at h <;> first | assumption | exact absurd h Bool.false_ne_true
theorem At.blk {X : Cx} {N : List Str} {sc : Scope} {fn : Str → Bool} (A : At T L X N sc fn) {scope : Scope} {own : List (Str × Nat)} (ok : BlkOk N sc scope own) (nl : fnOf scope "!" = false) (s : Shared) (H : Hp) (C : Addr) (cl : List (Str × Addr)) (fp : List Addr) :
    At T L (Blk X scope s H C cl fp) N (relS scope sc) (fnOf scope) where
  ok := ⟨A.ok.pr, A.ok.w, A.ok.K, A.ok.mg, A.ok.ba, A.ok.calm, A.ok.nd, A.ok.room, A.ok.gu, PassesOwn.never, ok.kind⟩
  n := A.n
  s := by show relS scope X.env.scope = _; rw [A.s]
  f := rfl
  lam := fun _ z => by rw [nl] at z; cases z
theorem eqS {x : Str} {y : Str} (h : (x == y) = true) : x = y := eq_of_beq h
theorem nodbg_ok {x : Str} (h : nodbg x = true) : (x == ("__debug__" : Str)) = false := by simpa [nodbg] using h
theorem isTup_ok {e : Expr} (h : isTupE e = true) : ∃ es k p, e = .Tuple es k p := by
  cases e <;> first | exact ⟨_, _, _, rfl⟩ | exact absurd h Bool.false_ne_true
theorem scEq_ok {v w : MV} (h : scEq v w = true) (hs : scalar v = true) : v = w := by
  cases v <;> cases w <;> simp_all [scEq, scalar]
end
end Snd
-- S22
namespace Snd
open PySem L2 Mi
section
variable {T : Tab} {Φ : Phi} {L : Nat} (TO : TOk T) (HF : AllF T Φ L)
theorem names_nil {es : IA} {xs : List Expr} (h : (match es with | .nil => xs.isEmpty | _ => !xs.isEmpty) = true) : (es = .nil ∧ xs = []) ∨ ∃ y ys, xs = y :: ys := by
  cases es with
  | nil => exact .inl ⟨rfl, by simpa using h⟩
  | _ =>
    cases xs with
    | nil => simp at h
    | cons y ys => exact .inr ⟨y, ys, rfl⟩
structure LcP (G : MT) (elt : IE) (tg : ITg) (it : II) (cond : IO) (own : List Nat) (N : List Str) (sc : Scope) (fn : Str → Bool) (x t i : Expr) (ifs : List Expr) (scope : Scope) : Prop where
  bk : BlkOk N sc scope (ownP N own)
  tm : tgM N (relS scope sc) (fnOf scope) tg t = true
  sl : ∀ j ∈ slots tg, j ∈ (ownP N own).map (·.2)
  bc : bC G cond N (relS scope sc) (fnOf scope) ifs = true
  be : bE G elt N (relS scope sc) (fnOf scope) x = true
  ns : noSet i = true
  bi : bI G it N sc fn t i = true
  nl : fnOf scope "!" = false
theorem lc_parts {G : MT} {elt : IE} {tg : ITg} {it : II} {cond : IO} {own : List Nat} {N : List Str} {sc : Scope} {fn : Str → Bool} {e : Expr} (h : bE G (.lc elt tg it cond own) N sc fn e = true) :
    ∃ x t i ifs scope pos, e = .ListComp x [⟨t, i, ifs, 0⟩] scope pos ∧ LcP G elt tg it cond own N sc fn x t i ifs scope := by
  simp only [bE] at h
  split at h
  · rename_i x t i ifs scope pos
    simp only [Bool.and_eq_true, Bool.not_eq_true'] at h
    obtain ⟨⟨⟨⟨⟨⟨⟨h1, h2⟩, h3⟩, h4⟩, h5⟩, h6⟩, h7⟩, h8⟩ := h
    refine ⟨x, t, i, ifs, scope, pos, rfl, blkOk_by h1, h2, fun j hj => ?_, h4, h5, h6, h7, h8⟩
    rw [ownP_snd]
    simpa using List.all_eq_true.mp h3 j hj
  · exact absurd h Bool.false_ne_true
structure DcP (G : MT) (k v : IE) (tg : ITg) (it : II) (own : List Nat) (N : List Str) (sc : Scope) (fn : Str → Bool) (x y t i : Expr) (scope : Scope) : Prop where
  bk : BlkOk N sc scope (ownP N own)
  tm : tgM N (relS scope sc) (fnOf scope) tg t = true
  sl : ∀ j ∈ slots tg, j ∈ (ownP N own).map (·.2)
  bk1 : bE G k N (relS scope sc) (fnOf scope) x = true
  be : bE G v N (relS scope sc) (fnOf scope) y = true
  ns : noSet i = true
  bi : bI G it N sc fn t i = true
  nl : fnOf scope "!" = false
theorem dc_parts {G : MT} {k v : IE} {tg : ITg} {it : II} {own : List Nat} {N : List Str} {sc : Scope} {fn : Str → Bool} {e : Expr} (h : bE G (.dc k v tg it own) N sc fn e = true) :
    ∃ x y t i scope pos, e = .DictComp x y [⟨t, i, [], 0⟩] scope pos ∧ DcP G k v tg it own N sc fn x y t i scope := by
  simp only [bE] at h
  split at h
  · rename_i x y t i scope pos
    simp only [Bool.and_eq_true, Bool.not_eq_true'] at h
    obtain ⟨⟨⟨⟨⟨⟨⟨h1, h2⟩, h3⟩, h4⟩, h5⟩, h6⟩, h7⟩, h8⟩ := h
    refine ⟨x, y, t, i, scope, pos, rfl, blkOk_by h1, h2, fun j hj => ?_, h4, h5, h6, h7, h8⟩
    rw [ownP_snd]
    simpa using List.all_eq_true.mp h3 j hj
  · exact absurd h Bool.false_ne_true
theorem dw_cases (ii : II) : Plain ii = true ∨ isDW ii := by
  cases ii <;> first | exact .inl rfl | exact .inr ⟨_, .inl rfl⟩ | exact .inr ⟨_, .inr (.inl rfl)⟩ | exact .inr ⟨_, .inr (.inr rfl)⟩
include TO HF
mutual
theorem mE : ∀ (ie : IE) {e : Expr} {X : Cx} {N : List Str} {sc : Scope} {fn : Str → Bool}, At T L X N sc fn → bE T.G ie N sc fn e = true → Res T Φ X ie e
  | .var i, e, X, N, sc, fn, A, h => by
    simp only [bE] at h
    split at h
    · rename_i x p
      simp only [Bool.and_eq_true, decide_eq_true_eq, Bool.not_eq_true'] at h
      obtain ⟨⟨⟨h1, h2⟩, h3⟩, h4⟩ := h
      exact Res.plain A.ok (good_var (by rw [A.n]; exact h1) (by rw [A.s]; exact isVis_ok h2) (nodbg_ok h3) h4) rfl
    · exact absurd h Bool.false_ne_true
  | .con v, e, X, N, sc, fn, A, h => by
    simp only [bE] at h
    split at h
    · exact Res.plain A.ok (good_const h) rfl
    · rename_i x p
      simp only [Bool.and_eq_true] at h
      obtain ⟨⟨h1, h2⟩, h3⟩ := h
      cases hl : T.G.gl.lookup x with
      | none => rw [hl] at h3; exact absurd h3 Bool.false_ne_true
      | some w =>
        rw [hl] at h3
        simp only [Bool.and_eq_true] at h3
        obtain rfl := scEq_ok h3.1 h3.2
        exact Res.plain A.ok (good_glob TO A.ok (gl_ok A h1) (nodbg_ok h2) hl) rfl
    · exact absurd h Bool.false_ne_true
  | .tup es, e, X, N, sc, fn, A, h => by
    simp only [bE] at h
    split at h
    · exact Res.plain A.ok (good_tup (mA es A h)) rfl
    · exact absurd h Bool.false_ne_true
  | .lst es, e, X, N, sc, fn, A, h => by
    simp only [bE] at h
    split at h
    · exact Res.plain A.ok (good_lst (mA es A h)) rfl
    · exact absurd h Bool.false_ne_true
  | .dic ps, e, X, N, sc, fn, A, h => by
    simp only [bE] at h
    split at h
    · rename_i ks vs p
      simp only [Bool.and_eq_true, decide_eq_true_eq] at h
      obtain ⟨⟨h1, h2⟩, h3⟩ := h
      have z := mP ps A h1
      cases ps with
      | nil =>
        simp only [Bool.and_eq_true, List.isEmpty_iff] at h3
        obtain ⟨rfl, rfl⟩ := h3
        exact Res.plain A.ok good_dnil rfl
      | cons k v r =>
        cases ks with
        | nil => simp at h3
        | cons k0 ks => exact Res.plain A.ok (good_dic z h2) rfl
    · exact absurd h Bool.false_ne_true
  | .bin o a b, e, X, N, sc, fn, A, h => by
    simp only [bE] at h
    split at h
    · simp only [Bool.and_eq_true] at h
      obtain ⟨⟨h1, h2⟩, h3⟩ := h
      obtain rfl := bopIs_eq h1
      exact Res.plain A.ok (good_bin A.ok (mE a A h2).ge (mE b A h3).ge) rfl
    · exact absurd h Bool.false_ne_true
  | .neg a, e, X, N, sc, fn, A, h => by
    simp only [bE] at h
    split at h
    · exact Res.plain A.ok (good_neg (mE a A h).ge) rfl
    · exact absurd h Bool.false_ne_true
  | .cmp o a b, e, X, N, sc, fn, A, h => by
    simp only [bE] at h
    split at h
    · simp only [Bool.and_eq_true] at h
      obtain ⟨⟨⟨h1, h2⟩, h3⟩, h4⟩ := h
      obtain rfl := copIs_eq h1
      exact ⟨good_cmp A.ok (mE a A h2).ge (mE b A h3).ge h4, good_cmpT A.ok (mE a A h2).ge (mE b A h3).ge h4, fun ⟨_, _, _, z⟩ => by cases z⟩
    · exact absurd h Bool.false_ne_true
  | .chn o1 o2 a b c, e, X, N, sc, fn, A, h => by
    simp only [bE] at h
    split at h
    · simp only [Bool.and_eq_true] at h
      obtain ⟨⟨⟨⟨⟨h0, h1⟩, h2⟩, h3⟩, h4⟩, h5⟩ := h
      obtain rfl := copIs_eq h0
      obtain rfl := copIs_eq h1
      exact ⟨good_chn A.ok (mE a A h2).ge (mE b A h3).ge (mE c A h4).ge h5, good_chnT A.ok (mE a A h2).ge (mE b A h3).ge (mE c A h4).ge h5, fun ⟨_, _, _, z⟩ => by cases z⟩
    · exact absurd h Bool.false_ne_true
  | .and a b, e, X, N, sc, fn, A, h => by
    simp only [bE] at h
    split at h
    · rename_i x y p
      simp only [Bool.and_eq_true] at h
      have ra := mE a A h.1
      have rb := mE b A h.2
      have w : GoodW T Φ X (.and a b) (.BoolOp .And [x, y] p) := good_andW ra.gt (good_andW1 rb.gt)
      exact ⟨good_and A.ok ra.ge (good_one rb.ge), w.t, fun _ => w⟩
    · rename_i x y z r p
      simp only [Bool.and_eq_true] at h
      have ra := mE a A h.1
      have rb := mE b A h.2
      have w : GoodW T Φ X (.and a b) (.BoolOp .And (x :: y :: z :: r) p) := good_andW ra.gt (rb.gw ⟨_, _, _, rfl⟩)
      exact ⟨good_and A.ok ra.ge rb.ge, w.t, fun _ => w⟩
    · exact absurd h Bool.false_ne_true
  | .or a b, e, X, N, sc, fn, A, h => by
    simp only [bE] at h
    split at h
    · rename_i x y p
      simp only [Bool.and_eq_true] at h
      have ra := mE a A h.1
      have rb := mE b A h.2
      have w : GoodW T Φ X (.or a b) (.BoolOp .Or [x, y] p) := good_orW ra.gt (good_orW1 rb.gt)
      exact ⟨good_or A.ok ra.ge (good_one rb.ge), w.t, fun _ => w⟩
    · rename_i x y z r p
      simp only [Bool.and_eq_true] at h
      have ra := mE a A h.1
      have rb := mE b A h.2
      have w : GoodW T Φ X (.or a b) (.BoolOp .Or (x :: y :: z :: r) p) := good_orW ra.gt (rb.gw ⟨_, _, _, rfl⟩)
      exact ⟨good_or A.ok ra.ge rb.ge, w.t, fun _ => w⟩
    · exact absurd h Bool.false_ne_true
  | .not a, e, X, N, sc, fn, A, h => by
    simp only [bE] at h
    split at h
    · have ra := mE a A h
      exact ⟨good_not A.ok ra.ge, good_notT A.ok ra.gt, fun ⟨_, _, _, z⟩ => by cases z⟩
    · exact absurd h Bool.false_ne_true
  | .ite c a b, e, X, N, sc, fn, A, h => by
    simp only [bE] at h
    split at h
    · simp only [Bool.and_eq_true] at h
      obtain ⟨⟨h1, h2⟩, h3⟩ := h
      have rc := mE c A h1
      have ra := mE a A h2
      have rb := mE b A h3
      exact ⟨good_ite rc.gt ra.ge rb.ge, good_iteT rc.gt ra.gt rb.gt, fun ⟨_, _, _, z⟩ => by cases z⟩
    · exact absurd h Bool.false_ne_true
  | .sub a i, e, X, N, sc, fn, A, h => by
    simp only [bE] at h
    split at h
    · simp only [Bool.and_eq_true] at h
      obtain ⟨⟨h1, h2⟩, h3⟩ := h
      exact Res.plain A.ok (good_sub TO A.ok HF (mE a A h1).ge (mE i A h2).ge h3) rfl
    · exact absurd h Bool.false_ne_true
  | .sli a lo hi, e, X, N, sc, fn, A, h => by
    simp only [bE] at h
    split at h
    · simp only [Bool.and_eq_true] at h
      obtain ⟨⟨h1, h2⟩, h3⟩ := h
      exact Res.plain A.ok (good_sli A.ok (mE a A h1).ge (mO lo A h2) (mO hi A h3)) rfl
    · exact absurd h Bool.false_ne_true
  | .rev a, e, X, N, sc, fn, A, h => by
    simp only [bE] at h
    split at h
    · simp only [Bool.and_eq_true, decide_eq_true_eq] at h
      obtain ⟨h1, rfl⟩ := h
      exact Res.plain A.ok (good_rev A.ok (mE a A h1).ge) rfl
    · exact absurd h Bool.false_ne_true
  | .fld a f, e, X, N, sc, fn, A, h => by
    simp only [bE] at h
    split at h
    · simp only [Bool.and_eq_true] at h
      obtain ⟨⟨h1, h2⟩, h3⟩ := h
      obtain rfl := eqS h2
      exact Res.plain A.ok (good_fld TO A.ok HF (mE a A h1).ge h3) rfl
    · exact absurd h Bool.false_ne_true
  | .call f es, e, X, N, sc, fn, A, h => by
    simp only [bE] at h
    split at h
    · simp only [Bool.and_eq_true] at h
      obtain ⟨⟨⟨⟨⟨⟨h1, h2⟩, h3⟩, h4⟩, h5⟩, h6⟩, h7⟩ := h
      obtain rfl := eqS h1
      rcases names_nil h7 with ⟨rfl, rfl⟩ | ⟨y, ys, rfl⟩
      · exact Res.plain A.ok (good_call0 TO A.ok HF (gl_ok A h2) (nodbg_ok h6) h3) rfl
      · exact Res.plain A.ok (good_call TO A.ok HF (mA es A h4) (gl_ok A h2) (nodbg_ok h6) h3 h5) rfl
    · exact absurd h Bool.false_ne_true
  | .new c es, e, X, N, sc, fn, A, h => by
    simp only [bE] at h
    split at h
    · simp only [Bool.and_eq_true] at h
      obtain ⟨⟨⟨⟨⟨⟨h1, h2⟩, h3⟩, h4⟩, h5⟩, h6⟩, h7⟩ := h
      obtain rfl := eqS h1
      rcases names_nil h7 with ⟨rfl, rfl⟩ | ⟨y, ys, rfl⟩
      · exact Res.plain A.ok (good_new0 TO A.ok HF (gl_ok A h2) (nodbg_ok h6) h3) rfl
      · exact Res.plain A.ok (good_new TO A.ok HF (mA es A h4) (gl_ok A h2) (nodbg_ok h6) h3 h5) rfl
    · exact absurd h Bool.false_ne_true
  | .mth a m es, e, X, N, sc, fn, A, h => by
    simp only [bE] at h
    split at h
    · simp only [Bool.and_eq_true, decide_eq_true_eq] at h
      obtain ⟨⟨⟨⟨⟨⟨⟨h1, h2⟩, h3⟩, h4⟩, h5⟩, h6⟩, h7⟩, h8⟩ := h
      obtain rfl := eqS h2
      rcases names_nil h8 with ⟨rfl, rfl⟩ | ⟨y, ys, rfl⟩
      · exact Res.plain A.ok (good_mth0 TO A.ok HF (mE a A h1).ge h3 h6) rfl
      · exact Res.plain A.ok (good_mth TO A.ok HF (mE a A h1).ge (mA es A h4) h3 h6 h5 h7) rfl
    · exact absurd h Bool.false_ne_true
  | .bmt a m es, e, X, N, sc, fn, A, h => by
    simp only [bE] at h
    split at h
    · simp only [Bool.and_eq_true, decide_eq_true_eq] at h
      obtain ⟨⟨⟨⟨⟨⟨⟨h1, h2⟩, h3⟩, h4⟩, h5⟩, h6⟩, h7⟩, h8⟩ := h
      obtain rfl := eqS h2
      rcases names_nil h8 with ⟨rfl, rfl⟩ | ⟨y, ys, rfl⟩
      · exact Res.plain A.ok (good_bmt0 A.ok (mE a A h1).ge h3 h6) rfl
      · exact Res.plain A.ok (good_bmt A.ok (mE a A h1).ge (mA es A h4) h3 h6 h5 h7) rfl
    · exact absurd h Bool.false_ne_true
  | .blt b es, e, X, N, sc, fn, A, h => by
    simp only [bE] at h
    split at h
    · simp only [Bool.and_eq_true] at h
      obtain ⟨⟨⟨h1, h2⟩, h3⟩, h4⟩ := h
      obtain rfl := eqS h1
      exact Res.plain A.ok (good_blt TO A.ok (mA es A h3) (gl_ok A h2) h4) rfl
    · exact absurd h Bool.false_ne_true
  | .isi a t, e, X, N, sc, fn, A, h => by
    simp only [bE] at h
    split at h
    · simp only [Bool.and_eq_true, Bool.not_eq_true'] at h
      obtain ⟨⟨⟨⟨⟨⟨⟨⟨h1, h2⟩, h3⟩, h4⟩, h5⟩, h6⟩, h7⟩, h8⟩, h9⟩ := h
      obtain rfl := eqS h1
      obtain rfl := eqS h4
      exact Res.plain A.ok (good_isi TO A.ok (fun c z => by subst z; exact absurd h9 Bool.false_ne_true) (mE a A h3).ge (gl_ok A h2) (gl_ok A h5) h6 (nodbg_ok h7) (beq_eq_false_iff_ne.mp h8)) rfl
    · exact absurd h Bool.false_ne_true
  | .lrg a, e, X, N, sc, fn, A, h => by
    simp only [bE] at h
    split at h
    · simp only [Bool.and_eq_true] at h
      obtain ⟨⟨⟨⟨⟨h1, h2⟩, h3⟩, h4⟩, h5⟩, h6⟩ := h
      obtain rfl := eqS h1
      obtain rfl := eqS h3
      exact Res.plain A.ok (good_lrg TO A.ok (mE a A h5).ge (gl_ok A h2) (gl_ok A h4) h6) rfl
    · exact absurd h Bool.false_ne_true
  | .lc elt tg it cond own, e, X, N, sc, fn, A, h => by
    obtain ⟨x, t, i, ifs, scope, pos, rfl, p⟩ := lc_parts h
    obtain rfl := A.n
    obtain rfl := A.s
    have B := fun s H C cl fp => A.blk p.bk p.nl s H C cl fp
    have z : GoodE T Φ X (.lc elt tg it cond ((ownP X.N own).map (·.2))) (.ListComp x [⟨t, i, ifs, 0⟩] scope pos) := by
      rcases dw_cases it with hp | hd
      · exact good_lc A.ok ((mI it A p.bi).1 hp) p.bk p.tm p.sl (fun s H C cl fp => mC cond (B s H C cl fp) p.bc) (fun s H C cl fp => (mE elt (B s H C cl fp) p.be).ge) p.ns
      · exact good_lcD A.ok hd ((mI it A p.bi).2 hd) p.bk p.tm p.sl (fun s H C cl fp => mC cond (B s H C cl fp) p.bc) (fun s H C cl fp => (mE elt (B s H C cl fp) p.be).ge) p.ns
    rw [ownP_snd] at z
    exact Res.plain A.ok z rfl
  | .dc k v tg it own, e, X, N, sc, fn, A, h => by
    obtain ⟨x, y, t, i, scope, pos, rfl, p⟩ := dc_parts h
    obtain rfl := A.n
    obtain rfl := A.s
    have B := fun s H C cl fp => A.blk p.bk p.nl s H C cl fp
    have z : GoodE T Φ X (.dc k v tg it ((ownP X.N own).map (·.2))) (.DictComp x y [⟨t, i, [], 0⟩] scope pos) := by
      rcases dw_cases it with hp | hd
      · exact good_dc A.ok ((mI it A p.bi).1 hp) p.bk p.tm p.sl (fun s H C cl fp => (mE k (B s H C cl fp) p.bk1).ge) (fun s H C cl fp => (mE v (B s H C cl fp) p.be).ge) p.ns
      · exact good_dcD A.ok hd ((mI it A p.bi).2 hd) p.bk p.tm p.sl (fun s H C cl fp => (mE k (B s H C cl fp) p.bk1).ge) (fun s H C cl fp => (mE v (B s H C cl fp) p.be).ge) p.ns
    rw [ownP_snd] at z
    exact Res.plain A.ok z rfl
  | .heard f a, e, X, N, sc, fn, A, h => by
    simp only [bE] at h
    split at h
    · rename_i x p params body scope lpos pos
      simp only [Bool.and_eq_true] at h
      obtain ⟨⟨⟨⟨⟨⟨⟨h1, h2⟩, h3⟩, h4⟩, h5⟩, h6⟩, h7⟩, h8⟩ := h
      have LS : LamX.LamS X.env.scope scope := by rw [A.s]; exact LamX.lamS_by h5
      refine Res.plain A.ok (good_heard TO A.ok (A.lam h6 h7) h1 (gl_ok A h2) (nodbg_ok h3) h4 LS fun A' outer s H E f' c' hgu hr => ?_) rfl
      have At' : At T L (LamX.lamCx X A' outer s H E scope f' c') N scope (fun _ => false) :=
        ⟨⟨A.ok.pr, A.ok.w, A.ok.K, A.ok.mg, A.ok.ba, rfl, A.ok.nd, hr, hgu.trans A.ok.gu, passes_of rfl, LS.kind⟩, A.n, rfl, rfl, fun _ z => nomatch z⟩
      exact (mE a At' h8).ge
    · exact absurd h Bool.false_ne_true
  | .lit a, e, X, N, sc, fn, A, h => by
    simp only [bE] at h
    split at h
    · simp only [Bool.and_eq_true] at h
      obtain ⟨⟨⟨⟨⟨h1, h2⟩, h3⟩, h4⟩, h5⟩, h6⟩ := h
      obtain rfl := eqS h1
      obtain rfl := eqS h3
      exact Res.plain A.ok (good_lit TO A.ok (mE a A h4).ge (gl_ok A h2) h5 h6) rfl
    · exact absurd h Bool.false_ne_true
  | .ino neg a b, e, X, N, sc, fn, A, h => by
    simp only [bE] at h
    split at h
    · simp only [Bool.and_eq_true] at h
      obtain ⟨⟨⟨h1, h2⟩, h3⟩, h4⟩ := h
      have e := copIs_eq h1
      have e2 : cop (if neg then .nin else .inn) = (if neg then .NotIn else .In) := by cases neg <;> rfl
      rw [e2] at e
      subst e
      have hm := mark_ok h4
      rw [e2] at hm
      exact ⟨good_ino TO A.ok HF (mE a A h2).ge (mE b A h3).ge hm, good_inoT TO A.ok HF (mE a A h2).ge (mE b A h3).ge hm, fun ⟨_, _, _, z⟩ => by cases z⟩
    · exact absurd h Bool.false_ne_true
  | .lzip a b, e, X, N, sc, fn, A, h => by
    simp only [bE] at h
    split at h
    · simp only [Bool.and_eq_true] at h
      obtain ⟨⟨⟨⟨⟨⟨h1, h2⟩, h3⟩, h4⟩, h5⟩, h6⟩, h7⟩ := h
      obtain rfl := eqS h1
      obtain rfl := eqS h3
      exact Res.plain A.ok (good_lzip TO A.ok (mE a A h5).ge (mE b A h6).ge (gl_ok A h2) (gl_ok A h4) h7) rfl
    · exact absurd h Bool.false_ne_true
  | .oeq neg a b, e, X, N, sc, fn, A, h => by
    simp only [bE] at h
    split at h
    · simp only [Bool.and_eq_true] at h
      obtain ⟨⟨⟨h1, h2⟩, h3⟩, h4⟩ := h
      have e := copIs_eq h1
      have e2 : cop (if neg then .ne else .eq) = (if neg then .NotEq else .Eq) := by cases neg <;> rfl
      rw [e2] at e
      subst e
      have hm := mark_ok h4
      rw [e2] at hm
      exact ⟨good_oeq TO A.ok HF (mE a A h2).ge (mE b A h3).ge hm, good_oeqT TO A.ok HF (mE a A h2).ge (mE b A h3).ge hm, fun ⟨_, _, _, z⟩ => by cases z⟩
    · exact absurd h Bool.false_ne_true
  | .olen a, e, X, N, sc, fn, A, h => by
    simp only [bE] at h
    split at h
    · simp only [Bool.and_eq_true] at h
      obtain ⟨⟨⟨h1, h2⟩, h3⟩, h4⟩ := h
      obtain rfl := eqS h1
      exact Res.plain A.ok (good_olen TO A.ok HF (mE a A h3).ge (gl_ok A h2) h4) rfl
    · exact absurd h Bool.false_ne_true
  | .iso a c, e, X, N, sc, fn, A, h => by
    simp only [bE] at h
    split at h
    · rename_i x p y z p2 pos
      simp only [Bool.and_eq_true] at h
      obtain ⟨⟨⟨⟨⟨⟨⟨h1, h2⟩, h3⟩, h4⟩, h5⟩, h6⟩, h7⟩, h8⟩ := h
      obtain rfl := eqS h1
      obtain rfl := eqS h4
      exact Res.plain A.ok (good_iso TO A.ok h8 (mE a A h3).ge (gl_ok A h2) (gl_ok A h5) h6 (nodbg_ok h7)) rfl
    · exact absurd h Bool.false_ne_true
  | .mkx c a, e, X, N, sc, fn, A, h => by
    simp only [bE] at h
    split at h
    · simp only [Bool.and_eq_true] at h
      obtain ⟨⟨⟨⟨⟨h1, h2⟩, h3⟩, h4⟩, h5⟩, h6⟩ := h
      obtain rfl := eqS h1
      exact Res.plain A.ok (good_mkx TO A.ok (good_acons (mE a A h3).ge good_anil h4) (gl_ok A h2) h6 (nodbg_ok h5) (star_cons _ h4)) rfl
    · exact absurd h Bool.false_ne_true
  | .mkb a, e, X, N, sc, fn, A, h => by
    simp only [bE] at h
    split at h
    · simp only [Bool.and_eq_true] at h
      obtain ⟨⟨⟨h1, h2⟩, h3⟩, h4⟩ := h
      obtain rfl := eqS h1
      exact Res.plain A.ok (good_mkb TO A.ok (good_acons (mE a A h3).ge good_anil h4) (gl_ok A h2) (star_cons _ h4)) rfl
    · exact absurd h Bool.false_ne_true
  | .isv a, e, X, N, sc, fn, A, h => by
    simp only [bE] at h
    split at h
    · rename_i x p y z p2 pos
      simp only [Bool.and_eq_true] at h
      obtain ⟨⟨⟨⟨⟨h1, h2⟩, h3⟩, h4⟩, h5⟩, h6⟩ := h
      obtain rfl := eqS h1
      obtain rfl := eqS h4
      exact Res.plain A.ok (good_isv TO A.ok (mE a A h3).ge (gl_ok A h2) (gl_ok A h5) h6) rfl
    · exact absurd h Bool.false_ne_true
  | .lset a, e, X, N, sc, fn, A, h => by
    simp only [bE] at h
    split at h
    · simp only [Bool.and_eq_true] at h
      obtain ⟨⟨⟨⟨⟨h1, h2⟩, h3⟩, h4⟩, h5⟩, h6⟩ := h
      obtain rfl := eqS h1
      obtain rfl := eqS h3
      exact Res.plain A.ok (good_lset TO A.ok (mE a A h5).ge (gl_ok A h2) (gl_ok A h4) h6) rfl
    · exact absurd h Bool.false_ne_true
  | .lstT o a w r, e, X, N, sc, fn, A, h => by
    simp only [bE] at h
    split at h
    · simp only [Bool.and_eq_true] at h
      obtain ⟨⟨⟨h1, h2⟩, h3⟩, h4⟩ := h
      obtain rfl := bopIs_eq h1
      obtain rfl := eqS h2
      exact Res.plain A.ok (good_lstT A.ok (mE a A h3).ge (mAT r A h4)) rfl
    · exact absurd h Bool.false_ne_true
  | .isx a c, e, X, N, sc, fn, A, h => by
    simp only [bE] at h
    split at h
    · rename_i x p y z p2 pos
      simp only [Bool.and_eq_true] at h
      obtain ⟨⟨⟨⟨⟨⟨⟨h1, h2⟩, h3⟩, h4⟩, h5⟩, h6⟩, h7⟩, h8⟩ := h
      obtain rfl := eqS h1
      obtain rfl := eqS h4
      exact Res.plain A.ok (good_isx TO A.ok h8 (mE a A h3).ge (gl_ok A h2) (gl_ok A h5) h6 (nodbg_ok h7)) rfl
    · exact absurd h Bool.false_ne_true
theorem mA : ∀ (ia : IA) {es : List Expr} {X : Cx} {N : List Str} {sc : Scope} {fn : Str → Bool}, At T L X N sc fn → bA T.G ia N sc fn es = true → GoodA T Φ X ia es
  | .nil, es, X, N, sc, fn, A, h => by
    simp only [bA, List.isEmpty_iff] at h
    subst h
    exact good_anil
  | .cons e r, es, X, N, sc, fn, A, h => by
    simp only [bA] at h
    split at h
    · simp only [Bool.and_eq_true] at h
      obtain ⟨⟨h1, h2⟩, h3⟩ := h
      exact good_acons (mE e A h2).ge (mA r A h3) h1
    · exact absurd h Bool.false_ne_true
  | .star e r, es, X, N, sc, fn, A, h => by
    simp only [bA] at h
    split at h
    · simp only [Bool.and_eq_true] at h
      exact good_astar A.ok (mE e A h.1).ge (mA r A h.2)
    · exact absurd h Bool.false_ne_true
  | .rep a c z r, es, X, N, sc, fn, A, h => by
    simp only [bA] at h
    exact absurd h Bool.false_ne_true
theorem mAT : ∀ (ia : IA) {es : List Expr} {X : Cx} {N : List Str} {sc : Scope} {fn : Str → Bool}, At T L X N sc fn → bAT T.G ia N sc fn es = true → GoodAT T Φ X ia es
  | .nil, es, X, N, sc, fn, A, h => by
    simp only [bAT, List.isEmpty_iff] at h
    subst h
    exact good_atn
  | .cons e r, es, X, N, sc, fn, A, h => by
    simp only [bAT] at h
    split at h
    · simp only [Bool.and_eq_true] at h
      obtain ⟨⟨h1, h2⟩, h3⟩ := h
      exact good_atc (mE e A h2).ge (mAT r A h3) h1
    · exact absurd h Bool.false_ne_true
  | .star e r, es, X, N, sc, fn, A, h => by
    simp only [bAT] at h
    exact absurd h Bool.false_ne_true
  | .rep a c z r, es, X, N, sc, fn, A, h => by
    simp only [bAT] at h
    split at h
    · simp only [Bool.and_eq_true] at h
      obtain ⟨⟨⟨⟨⟨⟨⟨h1, h2⟩, h3⟩, h4⟩, h5⟩, h6⟩, h7⟩, h8⟩ := h
      obtain rfl := eqS h1
      obtain rfl := eqS h2
      obtain rfl := eqS h3
      exact good_rep (mE a A h7).ge (mAT r A h8) (of_decide_eq_true h4) h5 h6
    · exact absurd h Bool.false_ne_true
theorem mP : ∀ (ip : IP) {ks : List (Option Expr)} {vs : List Expr} {X : Cx} {N : List Str} {sc : Scope} {fn : Str → Bool}, At T L X N sc fn → bP T.G ip N sc fn ks vs = true → GoodP T Φ X ip ks vs
  | .nil, ks, vs, X, N, sc, fn, A, h => by
    simp only [bP, Bool.and_eq_true, List.isEmpty_iff] at h
    obtain ⟨rfl, rfl⟩ := h
    exact good_pnil
  | .cons k v r, ks, vs, X, N, sc, fn, A, h => by
    simp only [bP] at h
    split at h
    · simp only [Bool.and_eq_true] at h
      obtain ⟨⟨h1, h2⟩, h3⟩ := h
      exact good_pcons (mE k A h1).ge (mE v A h2).ge (mP r A h3)
    · exact absurd h Bool.false_ne_true
theorem mO : ∀ (io : IO) {e : Option Expr} {X : Cx} {N : List Str} {sc : Scope} {fn : Str → Bool}, At T L X N sc fn → bO T.G io N sc fn e = true → GoodO T Φ X io e
  | .non, e, X, N, sc, fn, A, h => by
    simp only [bO, Option.isNone_iff_eq_none] at h
    subst h
    exact good_onon
  | .som a, e, X, N, sc, fn, A, h => by
    simp only [bO] at h
    split at h
    · exact good_osom (mE a A h).ge
    · exact absurd h Bool.false_ne_true
theorem mC : ∀ (io : IO) {es : List Expr} {X : Cx} {N : List Str} {sc : Scope} {fn : Str → Bool}, At T L X N sc fn → bC T.G io N sc fn es = true → GoodC T Φ X io es
  | .non, es, X, N, sc, fn, A, h => by
    simp only [bC, List.isEmpty_iff] at h
    subst h
    exact good_cnon
  | .som a, es, X, N, sc, fn, A, h => by
    simp only [bC] at h
    split at h
    · exact good_csom (mE a A h).gt
    · exact absurd h Bool.false_ne_true
theorem mI : ∀ (ii : II) {t e : Expr} {X : Cx} {N : List Str} {sc : Scope} {fn : Str → Bool}, At T L X N sc fn → bI T.G ii N sc fn t e = true → (Plain ii = true → GoodI T Φ X ii t e) ∧ (isDW ii → DictI T Φ X ii t e)
  | .ev a, t, e, X, N, sc, fn, A, h => by
    simp only [bI] at h
    exact ⟨fun _ => good_ev A.ok (mE a A h).ge, fun ⟨_, z⟩ => by rcases z with z | z | z <;> cases z⟩
  | .rng a, t, e, X, N, sc, fn, A, h => by
    simp only [bI] at h
    split at h
    · simp only [Bool.and_eq_true] at h
      obtain ⟨⟨⟨h1, h2⟩, h3⟩, h4⟩ := h
      obtain rfl := eqS h1
      exact ⟨fun _ => good_rng TO A.ok (mE a A h4).ge (gl_ok A h2) h3, fun ⟨_, z⟩ => by rcases z with z | z | z <;> cases z⟩
    · exact absurd h Bool.false_ne_true
  | .rng2 a b, t, e, X, N, sc, fn, A, h => by
    simp only [bI] at h
    split at h
    · simp only [Bool.and_eq_true] at h
      obtain ⟨⟨⟨⟨h1, h2⟩, h3⟩, h4⟩, h5⟩ := h
      obtain rfl := eqS h1
      exact ⟨fun _ => good_rng2 TO A.ok (mE a A h4).ge (mE b A h5).ge (gl_ok A h2) h3, fun ⟨_, z⟩ => by rcases z with z | z | z <;> cases z⟩
    · exact absurd h Bool.false_ne_true
  | .enu a, t, e, X, N, sc, fn, A, h => by
    simp only [bI] at h
    split at h
    · simp only [Bool.and_eq_true] at h
      obtain ⟨⟨⟨⟨h1, h2⟩, h3⟩, h4⟩, h5⟩ := h
      obtain rfl := eqS h1
      obtain ⟨es, k, p, rfl⟩ := isTup_ok h5
      exact ⟨fun _ => good_enu TO A.ok (mE a A h4).ge (gl_ok A h2) h3, fun ⟨_, z⟩ => by rcases z with z | z | z <;> cases z⟩
    · exact absurd h Bool.false_ne_true
  | .zip a b, t, e, X, N, sc, fn, A, h => by
    simp only [bI] at h
    split at h
    · simp only [Bool.and_eq_true] at h
      obtain ⟨⟨⟨⟨⟨h1, h2⟩, h3⟩, h4⟩, h5⟩, h6⟩ := h
      obtain rfl := eqS h1
      obtain ⟨es, k, p, rfl⟩ := isTup_ok h6
      exact ⟨fun _ => good_zip TO A.ok (mE a A h4).ge (mE b A h5).ge (gl_ok A h2) h3, fun ⟨_, z⟩ => by rcases z with z | z | z <;> cases z⟩
    · exact absurd h Bool.false_ne_true
  | .keys p, t, e, X, N, sc, fn, A, h => by
    simp only [bI] at h
    exact ⟨fun z => absurd z Bool.false_ne_true, fun _ => dict_keys (mE p A h).ge⟩
  | .items p, t, e, X, N, sc, fn, A, h => by
    simp only [bI] at h
    split at h
    · simp only [Bool.and_eq_true] at h
      obtain ⟨⟨⟨⟨h1, h2⟩, h3⟩, h4⟩, h5⟩ := h
      obtain rfl := eqS h1
      obtain ⟨es, k, q, rfl⟩ := isTup_ok h5
      exact ⟨fun z => absurd z Bool.false_ne_true, fun _ => dict_items (mE p A h2).ge h3 h4⟩
    · exact absurd h Bool.false_ne_true
  | .vals p, t, e, X, N, sc, fn, A, h => by
    simp only [bI] at h
    split at h
    · simp only [Bool.and_eq_true] at h
      obtain ⟨⟨⟨h1, h2⟩, h3⟩, h4⟩ := h
      obtain rfl := eqS h1
      exact ⟨fun z => absurd z Bool.false_ne_true, fun _ => dict_vals (mE p A h2).ge h3 h4⟩
    · exact absurd h Bool.false_ne_true
end
end
end Snd
-- S23
namespace Snd
open PySem L2 Mi

/-! ### statements matched -/
def isLcE : IE → Bool
  | .lc _ _ _ _ _ => true
  | .dc _ _ _ _ _ => true
  | _ => false
def tupOf : Expr → Option (List Expr)
  | .Tuple es _ _ => some es
  | _ => none
mutual
def bS (G : MT) : IS → List Str → Scope → (Str → Bool) → Stmt → Bool
  | .expr a, N, sc, fn, s => (match s with
    | .Expr e _ => noComp e && bE G a N sc fn e
    | _ => false)
  | .asg tg a, N, sc, fn, s => (match s with
    | .Assign [t] e p => (match tg with
      | .name i => (match t with
        | .Name y py => decide (N[i]? = some y) && isLoc sc fn y && bE G a N sc fn e && (!swVal sc e y py || isLcE a)
        | _ => false)
      | .tup ns => (match t with
        | .Tuple es k tp => tgM N sc fn (.tup ns) t && bE G a N sc fn e && (match tupOf e with | some vs => decide (swN sc es vs = some none) | none => true)
        | _ => false)
      | .pr l r => (match t with
        | .Tuple es k tp => tgM N sc fn (.pr l r) t && bE G a N sc fn e && (match tupOf e with | some vs => decide (swN sc es vs = some none) | none => true)
        | _ => false))
    | _ => false)
  | .par ns as, N, sc, fn, s => (match s with
    | .Assign [.Tuple ts k tp] (.Tuple vs k2 p2) p => (match ns, ts, vs with
      | [i, j], [.Name x px, .Name y py], [a, b] => decide (N[i]? = some x) && decide (N[j]? = some y) && decide (i ≠ j) && decide (sc.names.lookup x = some .local) && decide (sc.names.lookup y = some .local) && bA G as N sc fn [a, b] && decide (swN sc ts vs = some (some [x, y]))
      | [i, j, l], [.Name x px, .Name y py, .Name z pz], [a, b, c] => decide (N[i]? = some x) && decide (N[j]? = some y) && decide (N[l]? = some z) && decide (i ≠ j) && decide (i ≠ l) && decide (j ≠ l) && decide (sc.names.lookup x = some .local) && decide (sc.names.lookup y = some .local) && decide (sc.names.lookup z = some .local) &&
          bA G as N sc fn [a, b, c] && decide (swN sc ts vs = some (some [x, y, z]))
      | _, _, _ => false)
    | _ => false)
  | .setsub o i a, N, sc, fn, s => (match s with
    | .Assign [.Subscript x y _] e p => bE G o N sc fn x && bE G i N sc fn y && bE G a N sc fn e && okIx y
    | _ => false)
  | .set2 o i p j a, N, sc, fn, s => (match s with
    | .Assign [.Tuple [.Subscript x y q1, .Subscript z u q2] k tp] e _ => bE G o N sc fn x && bE G i N sc fn y && bE G p N sc fn z && bE G j N sc fn u && bE G a N sc fn e && okIx y && okIx u && (match tupOf e with | some vs => decide (swN sc [.Subscript x y q1, .Subscript z u q2] vs = some none) | none => true)
    | _ => false)
  | .setfld o f a, N, sc, fn, s => (match s with
    | .Assign [.Attribute x g _] e p => bE G o N sc fn x && (g == Str.ofString f) && bE G a N sc fn e
    | _ => false)
  | .iff c a b, N, sc, fn, s => (match s with
    | .If e x y _ => bE G c N sc fn e && bSs G a N sc fn x && bSs G b N sc fn y
    | _ => false)
  | .whl c b, N, sc, fn, s => (match s with
    | .While e x [] _ => bE G c N sc fn e && bSs G b N sc fn x
    | _ => false)
  | .for_ tg ii b, N, sc, fn, s => (match s with
    | .For t i x [] _ => tgM N sc fn tg t && bI G ii N sc fn t i && noSet i && bSs G b N sc fn x
    | _ => false)
  | .ret a, N, sc, fn, s => (match s with
    | .Return (some e) _ => bE G a N sc fn e
    | _ => false)
  | .retN, N, sc, fn, s => (match s with
    | .Return none _ => true
    | _ => false)
  | .pass, N, sc, fn, s => (match s with
    | .Pass _ => true
    | _ => false)
  | .brk, N, sc, fn, s => (match s with
    | .Break _ => true
    | _ => false)
  | .cont, N, sc, fn, s => (match s with
    | .Continue _ => true
    | _ => false)
  | .raise c a, N, sc, fn, s => (match s with
    | .Raise (some (.Call (.Name x _) [e] [] _)) none _ => (x == Str.ofString c) && isGl sc x && G.xcl.contains c && nodbg x && noStar [e] && bE G a N sc fn e
    | _ => false)
  | .bad, N, sc, fn, s => true
def bSs (G : MT) : List IS → List Str → Scope → (Str → Bool) → List Stmt → Bool
  | [], N, sc, fn, ss => ss.isEmpty
  | i :: r, N, sc, fn, ss => (match ss with
    | s :: ss => bS G i N sc fn s && bSs G r N sc fn ss
    | [] => false)
end
section
variable {T : Tab} {Φ : Phi} {L : Nat} (TO : TOk T) (HF : AllF T Φ L)
theorem attr_swap {e x : Expr} {g : Str} {p : Pos} (n : Nat) (env : PySem.Env) : swapsWith e (some (.Attribute x g p)) n env = pure false := by
  cases e <;> rfl
include TO HF
mutual
theorem mS : ∀ (is : IS) {s : Stmt} {X : Cx} {N : List Str} {sc : Scope} {fn : Str → Bool}, At T L X N sc fn → bS T.G is N sc fn s = true → GoodS T Φ X is s
  | .expr a, s, X, N, sc, fn, A, h => by
    simp only [bS] at h
    split at h
    · simp only [Bool.and_eq_true] at h
      exact good_expr (mE TO HF a A h.2).ge h.1
    · exact absurd h Bool.false_ne_true
  | .asg (.name i) a, s, X, N, sc, fn, A, h => by
    simp only [bS] at h
    split at h
    · rename_i t e p
      split at h
      · rename_i y py
        simp only [Bool.and_eq_true, decide_eq_true_eq] at h
        obtain ⟨⟨⟨h1, h2⟩, h3⟩, h4⟩ := h
        obtain rfl := A.n
        obtain rfl := A.s
        obtain rfl := A.f
        cases hv : swVal X.env.scope e y py with
        | false => exact good_set A.ok h1 h2 (mE TO HF a A h3).ge (by rw [swVal_ok A.ok.kind, hv])
        | true =>
          have hsw : ∀ l, swapsWith e (some (.Name y py)) l X.env = pure true := fun l => by rw [swVal_ok A.ok.kind, hv]
          rw [hv] at h4
          replace h4 : isLcE a = true := h4
          cases a <;> first | exact absurd h4 Bool.false_ne_true | skip
          · rename_i elt tg it cond own
            obtain ⟨x, t, i', ifs, scope, pos, rfl, q⟩ := lc_parts h3
            have hyl : X.env.scope.names.lookup y = some .local := by
              simp only [swVal, Bool.and_eq_true, decide_eq_true_eq] at hv
              exact hv.1.1
            have B := fun s H C cl fp => A.blk q.bk q.nl s H C cl fp
            have z : GoodS T Φ X (.asg (.name i) (.lc elt tg it cond ((ownP X.N own).map (·.2)))) (.Assign [.Name y py] (.ListComp x [⟨t, i', ifs, 0⟩] scope pos) p) := by
              rcases dw_cases it with hp | hd
              · exact good_setLc A.ok h1 hyl (hsw _) ((mI TO HF it A q.bi).1 hp) q.bk q.tm q.sl (fun s H C cl fp => mC TO HF cond (B s H C cl fp) q.bc) (fun s H C cl fp => (mE TO HF elt (B s H C cl fp) q.be).ge) q.ns
              · exact good_setLcD A.ok h1 hyl (hsw _) hd ((mI TO HF it A q.bi).2 hd) q.bk q.tm q.sl (fun s H C cl fp => mC TO HF cond (B s H C cl fp) q.bc) (fun s H C cl fp => (mE TO HF elt (B s H C cl fp) q.be).ge) q.ns
            rw [ownP_snd] at z
            exact z
          · rename_i k v tg it own
            obtain ⟨x, y', t, i', scope, pos, rfl, q⟩ := dc_parts h3
            have hyl : X.env.scope.names.lookup y = some .local := by
              simp only [swVal, Bool.and_eq_true, decide_eq_true_eq] at hv
              exact hv.1.1
            have B := fun s H C cl fp => A.blk q.bk q.nl s H C cl fp
            have z : GoodS T Φ X (.asg (.name i) (.dc k v tg it ((ownP X.N own).map (·.2)))) (.Assign [.Name y py] (.DictComp x y' [⟨t, i', [], 0⟩] scope pos) p) := by
              rcases dw_cases it with hp | hd
              · exact good_setDc A.ok h1 hyl (hsw _) ((mI TO HF it A q.bi).1 hp) q.bk q.tm q.sl (fun s H C cl fp => (mE TO HF k (B s H C cl fp) q.bk1).ge) (fun s H C cl fp => (mE TO HF v (B s H C cl fp) q.be).ge) q.ns
              · exact good_setDcD A.ok h1 hyl (hsw _) hd ((mI TO HF it A q.bi).2 hd) q.bk q.tm q.sl (fun s H C cl fp => (mE TO HF k (B s H C cl fp) q.bk1).ge) (fun s H C cl fp => (mE TO HF v (B s H C cl fp) q.be).ge) q.ns
            rw [ownP_snd] at z
            exact z
      · exact absurd h Bool.false_ne_true
    · exact absurd h Bool.false_ne_true
  | .asg (.tup ns) a, s, X, N, sc, fn, A, h => by
    simp only [bS] at h
    split at h
    · rename_i t e p
      split at h
      · rename_i es k tp
        simp only [Bool.and_eq_true] at h
        obtain ⟨⟨h1, h2⟩, h4⟩ := h
        obtain rfl := A.n
        obtain rfl := A.s
        obtain rfl := A.f
        refine good_tupS A.ok h1 (mE TO HF a A h2).ge ?_
        cases e <;> first | rfl | skip
        rename_i vs k2 p2
        have h4 : decide (swN X.env.scope es vs = some none) = true := h4
        exact swN_ok A.ok.kind (of_decide_eq_true h4)
      · exact absurd h Bool.false_ne_true
    · exact absurd h Bool.false_ne_true
  | .asg (.pr l r) a, s, X, N, sc, fn, A, h => by
    simp only [bS] at h
    split at h
    · rename_i t e p
      split at h
      · rename_i es k tp
        simp only [Bool.and_eq_true] at h
        obtain ⟨⟨h1, h2⟩, h4⟩ := h
        obtain rfl := A.n
        obtain rfl := A.s
        obtain rfl := A.f
        refine good_tupS A.ok h1 (mE TO HF a A h2).ge ?_
        cases e <;> first | rfl | skip
        rename_i vs k2 p2
        have h4 : decide (swN X.env.scope es vs = some none) = true := h4
        exact swN_ok A.ok.kind (of_decide_eq_true h4)
      · exact absurd h Bool.false_ne_true
    · exact absurd h Bool.false_ne_true
  | .par ns as, s, X, N, sc, fn, A, h => by
    simp only [bS] at h
    split at h
    · split at h
      · simp only [Bool.and_eq_true, decide_eq_true_eq] at h
        obtain ⟨⟨⟨⟨⟨⟨h1, h2⟩, h3⟩, h4⟩, h5⟩, h6⟩, h7⟩ := h
        have hA := mA TO HF as A h6
        obtain rfl := A.n
        obtain rfl := A.s
        exact good_par2 A.ok h1 h2 h3 h4 h5 hA (swN_ok A.ok.kind h7)
      · simp only [Bool.and_eq_true, decide_eq_true_eq] at h
        obtain ⟨⟨⟨⟨⟨⟨⟨⟨⟨⟨h1, h2⟩, h3⟩, h4⟩, h5⟩, h6⟩, h7⟩, h8⟩, h9⟩, h10⟩, h11⟩ := h
        have hA := mA TO HF as A h10
        obtain rfl := A.n
        obtain rfl := A.s
        exact good_par3 A.ok h1 h2 h3 h4 h5 h6 h7 h8 h9 hA (swN_ok A.ok.kind h11)
      · exact absurd h Bool.false_ne_true
    · exact absurd h Bool.false_ne_true
  | .setsub o i a, s, X, N, sc, fn, A, h => by
    simp only [bS] at h
    split at h
    · simp only [Bool.and_eq_true] at h
      obtain ⟨⟨⟨h1, h2⟩, h3⟩, h5⟩ := h
      exact good_setsub A.ok (mE TO HF o A h1).ge (mE TO HF i A h2).ge (mE TO HF a A h3).ge h5
    · exact absurd h Bool.false_ne_true
  | .set2 o i p j a, s, X, N, sc, fn, A, h => by
    simp only [bS] at h
    split at h
    · rename_i x y p1 z u p2 k tp e pos
      simp only [Bool.and_eq_true] at h
      obtain ⟨⟨⟨⟨⟨⟨⟨h1, h2⟩, h3⟩, h4⟩, h5⟩, h6⟩, h7⟩, h8⟩ := h
      refine good_set2 A.ok (mE TO HF o A h1).ge (mE TO HF i A h2).ge (mE TO HF p A h3).ge (mE TO HF j A h4).ge (mE TO HF a A h5).ge h6 h7 ?_
      obtain rfl := A.s
      cases e <;> first | rfl | skip
      rename_i vs k2 p3
      have h8 : decide (swN X.env.scope [.Subscript x y p1, .Subscript z u p2] vs = some none) = true := h8
      exact swN_ok A.ok.kind (of_decide_eq_true h8)
    · exact absurd h Bool.false_ne_true
  | .setfld o f a, s, X, N, sc, fn, A, h => by
    simp only [bS] at h
    split at h
    · simp only [Bool.and_eq_true] at h
      obtain ⟨⟨h1, h2⟩, h4⟩ := h
      obtain rfl := eqS h2
      exact good_setfld TO A.ok (mE TO HF o A h1).ge (mE TO HF a A h4).ge (.inr (attr_swap _ _))
    · exact absurd h Bool.false_ne_true
  | .iff c a b, s, X, N, sc, fn, A, h => by
    simp only [bS] at h
    split at h
    · simp only [Bool.and_eq_true] at h
      obtain ⟨⟨h1, h2⟩, h3⟩ := h
      exact good_if (mE TO HF c A h1).gt (mSs a A h2) (mSs b A h3)
    · exact absurd h Bool.false_ne_true
  | .whl c b, s, X, N, sc, fn, A, h => by
    simp only [bS] at h
    split at h
    · simp only [Bool.and_eq_true] at h
      exact good_while A.ok.po (mE TO HF c A h.1).gt (mSs b A h.2)
    · exact absurd h Bool.false_ne_true
  | .for_ tg ii b, s, X, N, sc, fn, A, h => by
    simp only [bS] at h
    split at h
    · simp only [Bool.and_eq_true] at h
      obtain ⟨⟨⟨h1, h2⟩, h3⟩, h4⟩ := h
      have hI := mI TO HF ii A h2
      have hb := mSs b A h4
      rw [← A.n, ← A.s, ← A.f] at h1
      rcases dw_cases ii with hp | hd
      · exact good_for A.ok.po A.ok hp (hI.1 hp) h1 hb h3
      · exact good_forD A.ok.po A.ok hd (hI.2 hd) h1 hb h3
    · exact absurd h Bool.false_ne_true
  | .ret a, s, X, N, sc, fn, A, h => by
    simp only [bS] at h
    split at h
    · exact good_ret (mE TO HF a A h).ge
    · exact absurd h Bool.false_ne_true
  | .retN, s, X, N, sc, fn, A, h => by
    simp only [bS] at h
    split at h
    · exact good_retN
    · exact absurd h Bool.false_ne_true
  | .pass, s, X, N, sc, fn, A, h => by
    simp only [bS] at h
    split at h
    · exact good_pass
    · exact absurd h Bool.false_ne_true
  | .brk, s, X, N, sc, fn, A, h => by
    simp only [bS] at h
    split at h
    · exact good_brk
    · exact absurd h Bool.false_ne_true
  | .cont, s, X, N, sc, fn, A, h => by
    simp only [bS] at h
    split at h
    · exact good_cont
    · exact absurd h Bool.false_ne_true
  | .raise c a, s, X, N, sc, fn, A, h => by
    simp only [bS] at h
    split at h
    · simp only [Bool.and_eq_true] at h
      obtain ⟨⟨⟨⟨⟨h1, h2⟩, h3⟩, h4⟩, h5⟩, h6⟩ := h
      obtain rfl := eqS h1
      exact good_raise TO A.ok (good_acons (mE TO HF a A h6).ge good_anil h5) (gl_ok A h2) h3 (nodbg_ok h4) (star_cons _ h5)
    · exact absurd h Bool.false_ne_true
  | .bad, s, X, N, sc, fn, A, h => good_bad
theorem mSs : ∀ (is : List IS) {ss : List Stmt} {X : Cx} {N : List Str} {sc : Scope} {fn : Str → Bool}, At T L X N sc fn → bSs T.G is N sc fn ss = true → GoodSs T Φ X is ss
  | [], ss, X, N, sc, fn, A, h => by
    simp only [bSs, List.isEmpty_iff] at h
    subst h
    exact good_nil
  | i :: r, ss, X, N, sc, fn, A, h => by
    simp only [bSs] at h
    split at h
    · simp only [Bool.and_eq_true] at h
      exact good_cons (mS i A h.1) (mSs r A h.2)
    · exact absurd h Bool.false_ne_true
end
end
end Snd
-- S24
namespace Snd
open PySem L2 Mi
section
variable {T : Tab}
theorem start_rel {g : Mu} {I : Hp} {xs : List MV} {vs : List V} {N : List Str} {n : Nat} (r : RepVs T.K g I xs vs) (hn : n = N.length - vs.length) : EnvRel T.K g I (xs.map some ++ List.replicate n none) (L2.start N vs) := by
  have hl := r.len
  refine ⟨by simp [L2.start, hl, hn], fun i x h => ?_⟩
  have hi : i < xs.length := by
    rcases Nat.lt_or_ge i xs.length with z | z
    · exact z
    · rw [List.getElem?_append_right (by simpa using z), List.getElem?_replicate] at h
      split at h <;> cases h
  rw [List.getElem?_append_left (by simpa using hi), List.getElem?_map] at h
  cases hx : xs[i]? with
  | none => rw [hx] at h; cases h
  | some y =>
    rw [hx] at h
    have h : some (some y) = some (some x) := h
    cases h
    obtain ⟨v, hv, rv⟩ := r.get hx
    refine ⟨v, ?_, rv⟩
    unfold L2.start
    rw [List.getElem?_append_left (by simpa [hl] using hi), List.getElem?_map, hv]
    rfl
/-- a def of the text, with defaults or without -/
structure FunX (K : PySem.W.Frag) (x qual : Str) (st : Stmt) (f : Addr) (fd : FuncData) : Prop where
  ex : ∃ (oc : Value) (od : Option Addr) (dV kV doc pm : Value) (an : Option Addr) (cdv ct : Value) (osl : Array (Option Value)),
    fd = PySem.W.fnOf x qual (defArgs st) (defBody st) (defScope st) dV kV doc pm an cdv ct ∧ K.lookup f = some ⟨oc, od, .func fd, osl⟩ ∧ PySem.W.codeIn K cdv qual = true
/-- a def of the text, its model -/
structure DefOk (T : Tab) (q : String) (a : Addr) : Prop where
  ex : ∃ (d : IDef) (x qual : Str) (st : Stmt) (fd : FuncData) (N ps : List Str), T.P.df q = some d ∧ FunX T.K x qual st a fd ∧ FnScope N ps (defScope st) ∧ Binds T.K fd ps [] ∧ d.ns = N.length ∧ d.np = ps.length ∧
    bSs T.G d.body N (defScope st) (fun _ => true) (defBody st) = true ∧
    (T.G.lam.contains N = true → ∃ c P, fd.code = .ref c ∧ LamX.TabB T.base T.mg c P ∧ (P, qual ++ ".<locals>." ++ "<lambda>") ∈ T.cl.tabs ∧ ∀ p ∈ T.cl.tabs, p.1 = P → p.2 = qual ++ ".<locals>." ++ "<lambda>")
theorem fnc_of (TO : TOk T) {k L : Nat} (HF : AllF T (sem T.P k) L) {q : String} {a : Addr} (D : DefOk T q a) : FnC T (sem T.P (k + 1)) (L + 5) q a := by
  obtain ⟨d, x, qual, st, fd, N, ps, hdf, F, Sc, hb, hns, hnp, hm, hlm⟩ := D.ex
  obtain ⟨oc, od, dV, kV, doc, pm, an, cdv, ct, osl, rfl, lk, hcd⟩ := F.ex
  intro A outer s H us vs xs Q XP g I Fr sto hr hgu e0 rus S rx ⟨d', hd', hlen, hwp⟩
  rw [hdf] at hd'; cases hd'
  have hvl : vs.length = ps.length := by rw [rx.len, hlen, hnp]
  have hul : us.length = ps.length := by rw [← rus.length, hvl]
  have KX : T.K.In s.heap := e0.mod.kin.keeps fun _ _ e => (e0.bs _ _ e).1
  have hlim : s.heap.NoLimit := e0.mod.nolimit.keeps fun _ _ e => (e0.bs _ _ e).1
  have hk : ∀ y ∈ ps.zip us, (defScope st).names.lookup y.1 = some .local ∨ ((defScope st).names.lookup y.1 = some .cell ∧ ((cellsFrom (s.heap.objs.size + 1) (defScope st).names []).lookup y.1).isSome = true) := by
    intro y hy
    rcases Sc.par y.1 (List.of_mem_zip (a := y.1) (b := y.2) hy).1 with z | z
    · exact .inl z
    · exact .inr ⟨z, PySem.W.cellsFrom_some _ _ _ (.inl z)⟩
  have hbd := hb s us KX (by rw [List.append_nil]; exact hul)
  rw [List.append_nil] at hbd
  refine codeAny_call_function hr.depth (KX _ _ lk) rfl Sc.co Sc.gen rfl (PySem.W.codeRec_of KX hcd) (hbd _ _ _ _ ?_)
  refine wpAny_newFunctionEnv_cells Sc.kind hk fun env he s1 z => ?_
  subst he
  refine ⟨hlim.keeps z.toInCall.keep, codeAny_func ?_⟩
  have I0 : Inv (cxOf (CX T.prog T.w) T.prog T.w T.K T.mg T.base N qual (defScope st) a cdv A outer s H (EX T g I Fr XP)) [] (L2.start N vs) H s1 := inv_start Sc hr.hd e0 hvl rus z
  have C : COk T L (cxOf (CX T.prog T.w) T.prog T.w T.K T.mg T.base N qual (defScope st) a cdv A outer s H (EX T g I Fr XP)) :=
    ⟨rfl, rfl, rfl, rfl, rfl, rfl, Sc.nd, Room.mono (k := L + 4) (Room.deeper (k := L + 4) hr _) (by omega), hgu, passes_of rfl, Sc.kind⟩
  have At0 : At T L (cxOf (CX T.prog T.w) T.prog T.w T.K T.mg T.base N qual (defScope st) a cdv A outer s H (EX T g I Fr XP)) N (defScope st) (fun _ => true) :=
    ⟨C, rfl, rfl, rfl, fun hl _ => by
      obtain ⟨c, P, z1, z2, z3, z4⟩ := hlm hl
      have eq : (cxOf (CX T.prog T.w) T.prog T.w T.K T.mg T.base N qual (defScope st) a cdv A outer s H (EX T g I Fr XP)).env.qual = qual ++ ".<locals>." := rfl
      refine ⟨c, P, z1, ?_, ?_, ?_, ?_⟩
      · exact z2
      · rw [eq]; exact z3
      · rw [eq]; exact z4
      · exact Room.deeper (k := L + 4) hr _⟩
  have tk : Takes (cxOf (CX T.prog T.w) T.prog T.w T.K T.mg T.base N qual (defScope st) a cdv A outer s H (EX T g I Fr XP)) (fun cls d _ H' => EX T g I Fr XP cls d H') := takes_of rfl rfl rfl rfl
  have er : SR T (cxOf (CX T.prog T.w) T.prog T.w T.K T.mg T.base N qual (defScope st) a cdv A outer s H (EX T g I Fr XP)) (fun c v _ st' => XP c v st') g I Fr (xs.map some ++ List.replicate (d.ns - d.np) none) (L2.start N vs) :=
    ⟨start_rel rx (by rw [hns, hnp, hvl]), tk.imp fun _ _ _ _ ⟨g', I', _, c, v, st', z1, z2, z3, _, z5, z6⟩ => ⟨g', I', c, v, st', z1, z2, z3, z5, z6⟩⟩
  have run := mSs TO HF d.body At0 hm g I Fr H sto _ (L2.start N vs) ⟨fun _ st' => Q .non st', Q, fun _ _ => False, fun _ _ => False, fun c v _ st' => XP c v st'⟩ er S hwp
  refine wpAny_mono (run [] s1 I0) (fun fl s' hs => ?_) fun _ _ z => z
  cases fl with
  | ret u =>
    obtain ⟨v, σ', H', J, rv, q'⟩ := hs
    exact ⟨v, H', J.os, J.bare, J.base, J.hok, rv, q'⟩
  | next =>
    obtain ⟨σ', H', J, g', I', e', st', a1, b1, S', _, q'⟩ := hs
    exact ⟨.non, H', J.os, J.bare, J.base, J.hok, rfl, g', I', .non, st', a1, b1, S', rfl, q'⟩
  | brk =>
    obtain ⟨σ', H', J, g', I', e', st', a1, b1, S', _, q'⟩ := hs
    exact q'.elim
  | cont =>
    obtain ⟨σ', H', J, g', I', e', st', a1, b1, S', _, q'⟩ := hs
    exact q'.elim
/-- every def, k calls deep -/
theorem all_fn (TO : TOk T) (D : ∀ q a, T.ad q = some a → DefOk T q a) : ∀ k : Nat, AllF T (sem T.P k) (5 * k)
  | 0 => fun q a _ A outer s H us vs xs Q XP g I F st _ _ _ _ _ _ h => (show False from h).elim
  | k + 1 => fun q a ha => fnc_of TO (all_fn TO D k) (D q a ha)

/-! ### the law's call -/
open PySem.Spec PyProof.Rows in
theorem law_callG {P : Program} {w : World} {K : PySem.W.Frag} {mg mb : Str → Option Value} {fa a : Addr} {cs : List (Addr × Addr)} {s₁ : Shared} {vs : List Value} {ns : List Int}
    (KX : K.In s₁.heap) (hns : s₁.heap.Ns mainGlobals mg) (hb : s₁.heap.Ns builtinsNs mb) (hbb : ∀ x : Str, x ≠ "__name__" → mb x = bootBuiltins x) (hlim : s₁.heap.NoLimit) (hg : s₁.gens = #[])
    (hT : ∀ p ∈ cs, s₁.heap.get? p.2 = some { cls := .none, data := .fields #[] }) (nT : ∀ p ∈ cs, K.lookup p.2 = none) (C : ∀ p ∈ cs, PySem.W.CodeHd s₁.heap p.1 p.2)
    (hbm : ∃ (bm : Addr) (ob : Obj), mg "__builtins__" = some (.ref bm) ∧ bm ≠ builtinsNs ∧ s₁.heap.get? bm = some ob ∧ ob.cls = .type "module" ∧ ob.dict = some builtinsNs ∧ ob.data = .plain)
    (ha : s₁.heap.get? a = some { cls := .type "list", data := .seq vs.toArray }) (hi : IntsAre vs ns) (hl : ns.length ≤ sizeLine)
    (F : ∀ base : Heap, K.In base → base.Ns mainGlobals mg → (∀ p ∈ cs, LamX.TabB base mg p.1 p.2) → ∀ H : Hp, (∀ p ∈ cs, H p.2 = some (.tbl #[])) → (∀ b, H b = none ∨ b ∈ cs.map (·.2) ∨ ∃ o xs, H b = some (.frz o (.lst xs))) → SqL K H a (ns.map V.int) → Env0 P w K mg base callerA [] s₁ H →
      codeAny (model P w) callerA (.call (.ref fa) ⟨[.ref a], []⟩) (CR (fun _ _ _ _ _ _ => False) [] P w H s₁ (fun v _ => v = .bl true) E0) s₁) :
    codeAny (model P w) callerA (.call (.ref fa) ⟨[.ref a], []⟩) (fun r s' => r = .ok (.ret (.bool true)) ∧ OldK s₁.heap s'.heap ∧ s'.os = s₁.os ∧ AllBare s'.gens) s₁ := by
  have rv := vals_ints hi
  have lenV := hi.length
  have isT : ∀ b : Addr, b ∈ cs.map (·.2) → s₁.heap.get? b = some { cls := .none, data := .fields #[] } := fun b hb => by
    obtain ⟨p, hp, e⟩ := List.mem_map.mp hb
    rw [← e]
    exact hT p hp
  have aT : a ∉ cs.map (·.2) := fun z => by
    have q := isT a z
    rw [ha] at q
    have z' : Data.seq vs.toArray _ = Data.fields #[] := congrArg Obj.data (Option.some.inj q)
    cases z'
  have memT : ∀ p ∈ cs, p.2 ∈ cs.map (·.2) := fun p hp => List.mem_map.mpr ⟨p, hp, rfl⟩
  -- from an abstract heap in which nothing but the script and the tables may be tracked
  have core : ∀ H : Hp, (∀ p ∈ cs, H p.2 = some (.tbl #[])) → (∀ b, H b = none ∨ b ∈ cs.map (·.2) ∨ ∃ o xs, H b = some (.frz o (.lst xs))) → SqL K H a (ns.map V.int) → HOk P w H s₁.heap → (∀ b, H b ≠ none → b = a ∨ b ∈ cs.map (·.2)) → (H a ≠ none → K.lookup a = none) →
      codeAny (model P w) callerA (.call (.ref fa) ⟨[.ref a], []⟩) (fun r s' => r = .ok (.ret (.bool true)) ∧ OldK s₁.heap s'.heap ∧ s'.os = s₁.os ∧ AllBare s'.gens) s₁ := by
    intro H hH hO hS hok hA hK
    have base_of : ∀ {b : Addr} {o : Obj}, s₁.heap.get? b = some o → H b = none → (hidT s₁.heap H).get? b = some o := fun e n => hidT_get e n
    have noD : ∀ {b : Addr} {o : Obj}, s₁.heap.get? b = some o → (∀ vs n, o.data ≠ .seq vs n) → o.data ≠ .fields #[] → H b = none := fun {b o} e h1 h2 => by
      cases q : H b with
      | none => rfl
      | some u =>
        rcases hA b (by rw [q]; simp) with e' | e'
        · rw [e', ha] at e
          cases e
          exact (h1 _ _ rfl).elim
        · rw [isT b e'] at e
          cases e
          exact (h2 rfl).elim
    have noA : ∀ {b : Addr} {o : Obj} {es : Array DictEntry} {ep : Nat}, s₁.heap.get? b = some o → o.data = .dict es ep → H b = none := fun {b o es ep} e d => by
      refine noD e (fun vs n z => ?_) fun z => ?_
      · rw [d] at z
        cases z
      · rw [d] at z
        cases z
    have nsK : ∀ {b : Addr} {m : Str → Option Value}, s₁.heap.Ns b m → (hidT s₁.heap H).Ns b m := fun {b m} ⟨o, es, ep, e, d, r⟩ => ⟨o, es, ep, base_of e (noA e d), d, r⟩
    have hKb : K.In (hidT s₁.heap H) := fun b o e => base_of (KX b o e) (by
      cases q : H b with
      | none => rfl
      | some u =>
        rcases hA b (by rw [q]; simp) with e' | e'
        · rw [e'] at e q
          rw [hK (by rw [q]; simp)] at e
          cases e
        · obtain ⟨p, hp, ep⟩ := List.mem_map.mp e'
          rw [← ep, nT p hp] at e
          cases e)
    have hM : L2.Mod K mg (hidT s₁.heap H) := ⟨hKb, nsK hns, ⟨mb, nsK hb, hbb⟩, let ⟨mc, h1, h2⟩ := hlim; ⟨mc, nsK h1, h2⟩⟩
    have TB : ∀ p ∈ cs, LamX.TabB (hidT s₁.heap H) mg p.1 p.2 := fun p hp => by
      have hTp := hT p hp
      refine ⟨?_, ?_, fun z => ?_⟩
      · obtain ⟨o, us, file, tf, flags, tg, inF, text, tt, e1, r1, r2, r3, r4, r5, r6, r7, r8, hne⟩ := C p hp
        refine ⟨o, us, file, tf, flags, tg, inF, text, tt, base_of e1 (noD e1 (fun vs n z => ?_) fun z => ?_), r1, r2, r3, r4, r5, r6, r7, r8, hne⟩
        · rw [r2] at z
          cases z
        · rw [r2] at z
          cases z
          simp at r3
      · obtain ⟨bm, ob, b1, b2, b3, b4, b5, b6⟩ := hbm
        have nG : bm ≠ mainGlobals := fun q => by
          obtain ⟨o, es, ep, e, hd, _⟩ := hns
          rw [q, e] at b3
          cases b3
          rw [hd] at b6
          cases b6
        have nP : bm ≠ p.2 := fun q => by
          rw [q, hTp] at b3
          cases b3
          cases b6
        refine ⟨bm, ob, b1, b2, nG, nP, base_of b3 (noD b3 (fun vs n z => ?_) fun z => ?_), b4, b5, b6⟩
        · rw [b6] at z
          cases z
        · rw [b6] at z
          cases z
      · obtain ⟨o, es, ep, e, hd, _⟩ := hns
        rw [z, hTp] at e
        cases e
        cases hd
    have e0 : Env0 P w K mg (hidT s₁.heap H) callerA [] s₁ H := ⟨rfl, hM, fun b o e => of_hidT e, Nat.le_of_eq (hidT_size _ _), trivial, fun b hb => absurd (show b ∈ ([] : List Addr) from hb) (by simp), hok, .of_eq hg⟩
    refine codeAny_mono (F _ hKb (nsK hns) TB H hH hO hS e0) fun r s' h => ?_
    cases r with
    | error e => exact h.elim
    | ok fl =>
      cases fl with
      | next => exact False.elim h
      | brk => exact False.elim h
      | cont => exact False.elim h
      | ret u =>
        obtain ⟨v, H', os, bare, un, hok', r', q⟩ := h
        have q' : v = .bl true := q
        subst q'
        obtain rfl : u = Value.bool true := r'
        have key : ∀ b o, b ∉ cs.map (·.2) → s₁.heap.get? b = some o → s'.heap.get? b = some o := fun b o nb e => by
          cases q : H b with
          | none => exact un.keep b o e q (by intro z; exact absurd (show b ∈ ([] : List Addr) from z) (by simp)) (by simp)
          | some u =>
            rcases hO b with z | z | ⟨ob, xs, z⟩
            · rw [q] at z; cases z
            · exact absurd z nb
            · have z2 := un.frzs b ob _ z
              obtain ⟨e1, _⟩ := hok b _ z
              obtain ⟨e2, _⟩ := hok' b _ z2
              rw [e] at e1; cases e1
              exact e2
        have grown : ∀ p ∈ cs, ∃ more : Array Value, s'.heap.get? p.2 = some { cls := .none, data := .fields more } := fun p hp => by
          obtain ⟨more, z⟩ := un.tbls p.2 #[] (hH p hp)
          exact ⟨_, hok' p.2 _ z⟩
        refine ⟨rfl, ⟨fun b o e => ?_, fun b o e => ?_⟩, os, bare⟩
        · by_cases hb : b ∈ cs.map (·.2)
          · obtain ⟨p, hp, ep⟩ := List.mem_map.mp hb
            obtain ⟨more, hm⟩ := grown p hp
            rw [← ep] at e ⊢
            rw [hT p hp] at e
            cases e
            exact .inr (.inl ⟨((C p hp).tab (hT p hp)).isCodeTable, rfl, #[], more, rfl, by rw [Array.empty_append]; exact hm⟩)
          · exact .inl (key b o hb e)
        · by_cases hb : b ∈ cs.map (·.2)
          · obtain ⟨p, hp, ep⟩ := List.mem_map.mp hb
            obtain ⟨more, hm⟩ := grown p hp
            rw [← ep]
            exact ⟨_, hm⟩
          · exact ⟨o, key b o hb e⟩
  cases hk : K.lookup a with
  | some o =>
    have e := KX a o hk
    rw [ha] at e
    cases e
    refine core (fun b => if b ∈ cs.map (·.2) then some (.tbl #[]) else none) (fun p hp => if_pos (memT p hp)) (fun b => ?_) (.inr ⟨_, vs.toArray, _, hk, rfl, rfl, rfl, by rw [List.size_toArray, lenV]; exact hl, by simpa using rv⟩) (fun b u z => ?_) (fun b z => ?_) fun z => absurd (show (if a ∈ cs.map (·.2) then some (HO.tbl #[]) else none) = none from if_neg aT) z
    · by_cases hb : b ∈ cs.map (·.2)
      · exact .inr (.inl hb)
      · exact .inl (if_neg hb)
    · by_cases hb : b ∈ cs.map (·.2)
      · have z' := (if_pos hb).symm.trans z
        cases z'
        exact isT b hb
      · have z' := (if_neg hb).symm.trans z
        cases z'
    · by_cases hb : b ∈ cs.map (·.2)
      · exact .inr hb
      · exact absurd (if_neg hb) z
  | none =>
    refine core (fun b => if b = a then some (.frz { cls := .type "list", data := .seq vs.toArray } (.lst (ns.map V.int))) else if b ∈ cs.map (·.2) then some (.tbl #[]) else none) (fun p hp => (if_neg (show ¬ p.2 = a from fun z => aT (by rw [← z]; exact memT p hp))).trans (if_pos (memT p hp))) (fun b => ?_)
      (.inl (.inr ⟨{ cls := .type "list", data := .seq vs.toArray }, if_pos rfl⟩)) (fun b u z => ?_) (fun b z => ?_) fun _ => hk
    · by_cases hb : b = a
      · exact .inr (.inr ⟨_, _, if_pos hb⟩)
      · by_cases hb2 : b ∈ cs.map (·.2)
        · exact .inr (.inl hb2)
        · exact .inl ((if_neg hb).trans (if_neg hb2))
    · by_cases hb : b = a
      · have z' := (if_pos hb).symm.trans z
        cases z'
        rw [hb]
        exact ⟨ha, by rw [List.length_map]; exact hl, vs, _, rv, ha⟩
      · have z1 := (if_neg hb).symm.trans z
        by_cases hb2 : b ∈ cs.map (·.2)
        · have z' := (if_pos hb2).symm.trans z1
          cases z'
          exact isT b hb2
        · have z' := (if_neg hb2).symm.trans z1
          cases z'
    · by_cases hb : b = a
      · exact .inl hb
      · by_cases hb2 : b ∈ cs.map (·.2)
        · exact .inr hb2
        · exact absurd ((if_neg hb).trans (if_neg hb2)) z
end
end Snd
-- S25
namespace Snd
open PySem L2 Mi
open PySem.Spec in
/-- the end of a law: what its model answers -/
theorem walkG {l : PySem.W.OpenLaw} {k : Nat} {q : Program} {loose : List Str} {XP : (Str → Option Value) → Heap → Prop} {YP : World → Heap → Prop} {d : DefRec} {K : Params → PySem.W.Frag} {P : Prog}
    (hn : l.most = some 63) (hdf : d.params.defaults = []) (hr : Room (5 * k) callerA) (hY : ∀ (w : World) (h : Heap), YP w h → (K w.params).In h)
    (F : ∀ (w : World) (mg : Str → Option Value) (fa : Addr) (h : Heap), YP w h → (K w.params).In h → h.Ns mainGlobals mg → mg d.name = some (.ref fa) →
      (∀ d ∈ PyProof.Rows.recsOf q, ∃ (a : Addr) (o : Obj) (fd : FuncData) (c P : Addr), mg d.name = some (.ref a) ∧ h.get? a = some o ∧ o.data = .func fd ∧ fd.code = .ref c ∧ h.IsCode c P #[] ∧ h.TableAt c P #[]) →
      ∃ cs : List (Addr × Addr), (∀ p ∈ cs, h.get? p.2 = some { cls := .none, data := .fields #[] }) ∧ (∀ p ∈ cs, (K w.params).lookup p.2 = none) ∧ (∀ p ∈ cs, PySem.W.CodeHd h p.1 p.2) ∧
      ∀ base : Heap, (K w.params).In base → (∀ p ∈ cs, LamX.TabB base mg p.1 p.2) →
      ∃ T : Tab, T.prog = l.prog ∧ T.w = w ∧ T.K = K w.params ∧ T.mg = mg ∧ T.base = base ∧ T.P = P ∧ (∀ p ∈ T.cl.tabs, p.1 ∈ cs.map (·.2)) ∧ TOk T ∧ (∀ q a, T.ad q = some a → DefOk T q a) ∧ T.ad "law" = some fa)
    (hP : ∀ ns : List Int, ns.length ≤ 63 → (∀ z ∈ ns, Builtin.Int.intBits z ≤ 1048576) → sem P k "law" [.lsv (ns.map MV.int)] [] (fun v _ => v = .bl true) NoX) :
    PySem.W.WalkO q loose XP YP l.row.toRowW d [] (fun f vs => PySem.call f vs) := by
  refine Att.attach_callB hn hdf fun w s₀ s₁ mg mb fa o pm cd doc a vs ns G Y ho hd hcd hmg hobj hints hlen hbits hg => ?_
  have KX := hY w _ Y
  obtain ⟨cs, hT, nT, hC, F⟩ := F w mg fa _ Y KX G.T.g hmg G.T.tab
  refine law_callG KX G.T.g G.T.b G.T.builtins G.T.nolimit hg hT nT hC G.T.bmain hobj hints (Nat.le_trans hlen (by decide)) fun base KB nb TB H hH hO hS e0 => ?_
  obtain ⟨T, e1, e2, eK, e3, e4, e5, et, TO, D, hf⟩ := F base KB TB
  subst e5
  rw [← eK] at hS e0
  rw [← e1, ← e3, ← e4, ← e2] at e0
  rw [← e1, ← e2]
  obtain ⟨I, hI1, hI2⟩ : ∃ I : Hp, (∀ b, b ∈ cs.map (·.2) → I b = none) ∧ ∀ b, b ∉ cs.map (·.2) → I b = H b :=
    ⟨fun b => if b ∈ cs.map (·.2) then none else H b, fun b h => if_pos h, fun b h => if_neg h⟩
  have hII : LeH I H := fun b u e => by
    by_cases hb : b ∈ cs.map (·.2)
    · rw [hI1 b hb] at e; cases e
    · rw [hI2 b hb] at e; exact e
  have S : T.Sim (fun _ => none) I (fun _ => none) H [] := by
    refine ⟨fun a o e => (by simp at e), fun _ _ e => (by cases e), fun _ _ _ e => (by cases e), hII, fun _ _ e => (by cases e), fun _ _ e => (by cases e), fun _ _ _ e => (by cases e), fun _ _ e => (by cases e), fun p hp => ?_, fun b u e => ?_, fun _ _ e => (by cases e)⟩
    · obtain ⟨z, hz, ez⟩ := List.mem_map.mp (et p hp)
      exact LamX.TabS.nil (by rw [← ez]; exact hH z hz)
    · rcases hO b with z | z | ⟨o, xs, z⟩
      · rw [hII b u e] at z; cases z
      · rw [hI1 b z] at e; cases e
      · rw [hII b u e] at z; cases z; rfl
  have hSI : SqL T.K I a (ns.map V.int) := by
    have aT : a ∉ cs.map (·.2) := fun z => by
      obtain ⟨p, hp, ep⟩ := List.mem_map.mp z
      have q := hT p hp
      rw [ep, hobj] at q
      have z' : Data.seq vs.toArray _ = Data.fields #[] := congrArg Obj.data (Option.some.inj q)
      cases z'
    rcases hS with h | h
    · exact .inl (by unfold Rd at h ⊢; rw [hI2 a aT]; exact h)
    · exact .inr h
  have rr : RepVs T.K (fun _ => none) I [.lsv (ns.map MV.int)] [.ref a] := ⟨_, _, rfl, ⟨a, ns.map V.int, rfl, hSI, RepVs.map (f := MV.int) (f' := V.int) (fun _ => rfl) ns⟩, rfl⟩
  refine codeAny_mono (all_fn TO D k "law" fa hf callerA [] s₁ H [.ref a] [.ref a] _ _ _ _ _ _ _ hr rfl e0 (.cons rfl .nil) S rr (hP ns hlen hbits)) fun r t h => ?_
  cases r with
  | error e => exact (cx_no h).elim
  | ok fl =>
    cases fl with
    | ret u =>
      obtain ⟨v, H', os, bare, un, hok', r', g', I', x, st', _, _, _, rx, q⟩ := h
      have q : x = .bl true := q
      subst q
      exact ⟨v, H', os, bare, un, hok', r', rx⟩
    | next => exact h.elim
    | brk => exact h.elim
    | cont => exact h.elim
end Snd
-- S26
namespace Snd
open PySem L2 Mi

/-! ### the tables of a program, its facts -/
structure Dat where
  gl : List (Str × MV)
  fns : List String
  cls : List String
  dfs : List (String × IDef)
  mts : List ((String × String) × String)
  prs : List ((String × String) × Option String)
  /-- defs that may make lambdas; that hear errors; exception classes made; told by isinstance; which is which -/
  lam : List (List Str) := []
  hrd : List Str := []
  xcl : List String := []
  xis : List String := []
  xsb : List (String × String) := []
def Dat.P (D : Dat) : Prog := ⟨fun q => D.dfs.lookup q, fun c m => D.mts.lookup (c, m), fun c f => D.prs.lookup (c, f), rpD, fun c c' => D.xsb.contains (c, c')⟩
def Dat.G (D : Dat) : MT := ⟨D.gl, D.fns, D.cls, D.lam, D.hrd, D.xcl, D.xis⟩
/-- the names of builtins that must be free -/
def bNames : List String := ["len", "abs", "int", "str", "list", "tuple", "max", "min", "sum", "all", "any", "sorted", "repr", "dict", "set", "range", "isinstance", "bool", "enumerate", "zip", "ValueError"]
theorem mem_lk {α β : Type} [BEq α] [LawfulBEq α] : ∀ {l : List (α × β)} {k : α} {v : β}, l.lookup k = some v → (k, v) ∈ l
  | [], _, _, h => by simp at h
  | (a, b) :: r, k, v, h => by
    rw [List.lookup_cons] at h
    by_cases e : k = a
    · subst e
      simp at h
      subst h
      exact List.mem_cons_self
    · have : (k == a) = false := by simp [e]
      rw [this] at h
      exact List.mem_cons_of_mem _ (mem_lk h)
/-- which class is which, all at once -/
def ktB (K : PySem.W.Frag) (xs ys : List (String × Addr)) (xsb : List (String × String)) : Bool := ys.all fun c => xs.all fun p => decide (PySem.W.kitOne K (.ref p.2) (.ref c.2) = some (xsb.contains (p.1, c.1)))
theorem ktB_of {K : PySem.W.Frag} {xs ys : List (String × Addr)} {xsb : List (String × String)} (h : ktB K xs ys xsb = true) {c : String} {C : Addr} (hm : (c, C) ∈ ys) : ∀ p ∈ xs, PySem.W.kitOne K (.ref p.2) (.ref C) = some (xsb.contains (p.1, c)) := fun p hp => by
  have h1 := List.all_eq_true.mp h _ hm
  have h2 := List.all_eq_true.mp h1 _ hp
  exact of_decide_eq_true h2
structure Fax (D : Dat) (prog : Program) (K : PySem.W.Frag) (mg : Str → Option Value) (adT clT xcT : List (String × Addr)) : Prop where
  gl : ∀ p ∈ D.gl, scalar p.2 = true ∧ ∃ u, mg p.1 = some u ∧ RelV (scV p.2) u
  bn : ∀ n ∈ bNames, mg (Str.ofString n) = none
  fn : ∀ f ∈ D.fns, ∃ a, adT.lookup f = some a ∧ mg (Str.ofString f) = some (.ref a) ∧ PySem.W.keepIn K (.ref a) = true
  cls : ∀ c ∈ D.cls, ∃ C q, clT.lookup c = some C ∧ mg (Str.ofString c) = some (.ref C) ∧ D.mts.lookup (c, "__init__") = some q
  clk : ∀ p ∈ clT, Cls K p.2
  mt : ∀ e ∈ D.mts, ∃ C a, clT.lookup e.1.1 = some C ∧ adT.lookup e.2 = some a ∧ Meth K C (Str.ofString e.1.2) a ∧ PySem.W.fnIn K a = true
  mak : ∀ e ∈ D.mts, e.1.2 = "__init__" → ∃ C a, clT.lookup e.1.1 = some C ∧ adT.lookup e.2 = some a ∧ Mk K C a
  pr : ∀ e ∈ D.prs, ∀ q, e.2 = some q → ∃ C p a, clT.lookup e.1.1 = some C ∧ adT.lookup q = some a ∧ PropOf K C (Str.ofString e.1.2) p a
  fl : ∀ e ∈ D.prs, e.2 = none → ∃ C, clT.lookup e.1.1 = some C ∧ NoAttr K C (Str.ofString e.1.2)
  exc : ∀ c ∈ D.xcl, ∃ C, xcT.lookup c = some C ∧ mg (Str.ofString c) = some (.ref C) ∧ ExcOk prog K "value" C ∧ mg "super" = none
  xk : ∀ p ∈ xcT, L2.ExcC K p.2 ∧ XfC K p.2 ∧ PySem.W.findIn K (.ref p.2) "value" = some none
  own : ∀ p ∈ clT, OwnF K p.2
  iso : ∀ p ∈ clT, ∀ q ∈ clT, PySem.W.kitOne K (.ref q.2) (.ref p.2) = some (q.1 == p.1)
  xv : ∀ p ∈ xcT, PySem.W.subIn K (.ref p.2) (.type "ValueError") = some true
  xis : ∀ c' ∈ D.xis, ∃ C', mg (Str.ofString c') = some (.ref C') ∧ (PySem.W.kitOne K (.type "NoneType") (.ref C') = some false ∧ PySem.W.kitOne K (.type "ValueError") (.ref C') = some false) ∧ ∀ p ∈ xcT, PySem.W.kitOne K (.ref p.2) (.ref C') = some (D.xsb.contains (p.1, c'))
def Dat.tab (D : Dat) (prog : Program) (w : World) (K : PySem.W.Frag) (mg : Str → Option Value) (base : Heap) (adT clT xcT : List (String × Addr)) (tabs : List (Addr × Str)) : Tab :=
  ⟨D.G, D.P, prog, w, K, mg, base, ⟨fun c => clT.lookup c, fun c => xcT.lookup c, tabs⟩, fun q => adT.lookup q⟩
theorem tok_of {D : Dat} {prog : Program} {w : World} {K : PySem.W.Frag} {mg : Str → Option Value} {base : Heap} {adT clT xcT : List (String × Addr)} {tabs : List (Addr × Str)} (F : Fax D prog K mg adT clT xcT) (hh : ∀ f ∈ D.hrd, HeardOk (D.tab prog w K mg base adT clT xcT tabs) f) : TOk (D.tab prog w K mg base adT clT xcT tabs) where
  rp := rfl
  gl := fun x v h => F.gl (x, v) (mem_lk h)
  bn := fun b => F.bn _ (by cases b <;> decide)
  isi := F.bn _ (by decide)
  tys := fun t ht => F.bn _ (by cases t <;> first | decide | exact absurd rfl (ht _))
  rng := F.bn "range" (by decide)
  enu := F.bn "enumerate" (by decide)
  zip := F.bn "zip" (by decide)
  fn := fun f h => F.fn f (by simpa [Dat.tab, Dat.G] using h)
  cls := fun c h => F.cls c (by simpa [Dat.tab, Dat.G] using h)
  clk := fun c C h => F.clk (c, C) (mem_lk h)
  mt := fun c m q h => F.mt ((c, m), q) (mem_lk h)
  mak := fun c q C h hc => by
    obtain ⟨C', a, h1, h2, h3⟩ := F.mak ((c, "__init__"), q) (mem_lk h) rfl
    have hc : clT.lookup c = some C := hc
    rw [hc] at h1; cases h1
    exact ⟨a, h2, h3⟩
  pr := fun c f q h => F.pr ((c, f), some q) (mem_lk h) q rfl
  fl := fun c C f hc h => by
    obtain ⟨C', h1, h2⟩ := F.fl ((c, f), none) (mem_lk h) rfl
    have hc : clT.lookup c = some C := hc
    rw [hc] at h1; cases h1
    exact h2
  hrd := fun f h => hh f (by simpa [Dat.tab, Dat.G] using h)
  exc := fun c h => F.exc c (by simpa [Dat.tab, Dat.G] using h)
  xk := fun c d h => F.xk (c, d) (mem_lk h)
  own := fun c C h => F.own (c, C) (mem_lk h)
  iso := fun c C c' D h h' => F.iso (c, C) (mem_lk h) (c', D) (mem_lk h')
  xv := fun c d h => F.xv (c, d) (mem_lk h)
  ven := F.bn "ValueError" (by decide)
  xis := fun c' h => by
    obtain ⟨C', h1, h0, h2⟩ := F.xis c' (by simpa [Dat.tab, Dat.G] using h)
    exact ⟨C', h1, h0, fun c d hx => h2 (c, d) (mem_lk hx)⟩
/-- a def: its place in the text, its names -/
structure Spot where
  q : String
  x : Str
  st : Stmt
  N : List Str
  ps : List Str
def Spot.ok (D : Dat) (s : Spot) : Bool := match D.dfs.lookup s.q with
  | some d => decide (d.ns = s.N.length) && decide (d.np = s.ps.length) && bSs D.G d.body s.N (defScope s.st) (fun _ => true) (defBody s.st) && C8.scC s.N s.ps (defScope s.st)
  | none => false
theorem spot_def {D : Dat} {prog : Program} {w : World} {K : PySem.W.Frag} {mg : Str → Option Value} {base : Heap} {adT clT xcT : List (String × Addr)} {tabs : List (Addr × Str)} {s : Spot} {a : Addr} {qual : Str} {fd : FuncData} (h : s.ok D = true) (F : FunX K s.x qual s.st a fd) (b : Binds K fd s.ps [])
    (hl : D.lam.contains s.N = true → ∃ c P, fd.code = .ref c ∧ LamX.TabB base mg c P ∧ (P, qual ++ ".<locals>." ++ "<lambda>") ∈ tabs ∧ ∀ p ∈ tabs, p.1 = P → p.2 = qual ++ ".<locals>." ++ "<lambda>") :
    DefOk (D.tab prog w K mg base adT clT xcT tabs) s.q a := by
  unfold Spot.ok at h
  split at h
  · rename_i d hd
    simp only [Bool.and_eq_true, decide_eq_true_eq] at h
    obtain ⟨⟨⟨h1, h2⟩, h3⟩, h4⟩ := h
    exact ⟨d, s.x, qual, s.st, fd, s.N, s.ps, hd, F, C8.fnScope_by h4, b, h1, h2, h3, hl⟩
  · exact absurd h Bool.false_ne_true
end Snd
-- S27
namespace Snd
open PySem L2 Mi
theorem all_nil {α : Type} {P : α → Prop} : ∀ x ∈ ([] : List α), P x := fun _ h => by simp at h
theorem all_cons {α : Type} {P : α → Prop} {a : α} {l : List α} (h : P a) (t : ∀ x ∈ l, P x) : ∀ x ∈ a :: l, P x := fun x hx => by
  rcases List.mem_cons.mp hx with rfl | z
  · exact h
  · exact t x z
theorem def_at {D : Dat} {prog : Program} {w : World} {K : PySem.W.Frag} {mg : Str → Option Value} {base : Heap} {adT clT xcT : List (String × Addr)} {tabs : List (Addr × Str)} {s : Spot} {a : Addr} {qual : Str} {oc : Value} {od an : Option Addr} {osl : Array (Option Value)} {kV doc pm cdv ct : Value} (h : s.ok D = true)
    (l : K.lookup a = some ⟨oc, od, .func (PySem.W.fnOf s.x qual (defArgs s.st) (defBody s.st) (defScope s.st) .none kV doc pm an cdv ct), osl⟩) (c : PySem.W.codeIn K cdv qual = true) (k : PySem.W.keepIn K (.ref a) = true)
    (hb : ∀ (kV doc pm : Value) (an : Option Addr) (cdv ct : Value) (us : List Value), us.length = s.ps.length → bindArgs (PySem.W.fnOf s.x qual (defArgs s.st) (defBody s.st) (defScope s.st) .none kV doc pm an cdv ct) ⟨us, []⟩ = pure (s.ps.zip us))
    (hl : D.lam.contains s.N = true → ∃ c P, cdv = .ref c ∧ LamX.TabB base mg c P ∧ (P, qual ++ ".<locals>." ++ "<lambda>") ∈ tabs ∧ ∀ p ∈ tabs, p.1 = P → p.2 = qual ++ ".<locals>." ++ "<lambda>") :
    DefOk (D.tab prog w K mg base adT clT xcT tabs) s.q a := by
  have F := L2.fun_mk l c k
  exact spot_def h ⟨⟨_, _, _, _, _, _, _, _, _, _, rfl, l, c⟩⟩ (F.binds hb) hl
/-- a def with defaults, all of whose arguments are written -/
theorem def_atD {D : Dat} {prog : Program} {w : World} {K : PySem.W.Frag} {mg : Str → Option Value} {base : Heap} {adT clT xcT : List (String × Addr)} {tabs : List (Addr × Str)} {s : Spot} {a dT : Addr} {qual : Str} {oc ocd : Value} {od an odd : Option Addr} {osl sld : Array (Option Value)} {its : Array Value} {n : Nat} {kV doc pm cdv ct : Value} (h : s.ok D = true)
    (l : K.lookup a = some ⟨oc, od, .func (PySem.W.fnOf s.x qual (defArgs s.st) (defBody s.st) (defScope s.st) (.ref dT) kV doc pm an cdv ct), osl⟩) (c : PySem.W.codeIn K cdv qual = true) (_k : PySem.W.keepIn K (.ref a) = true)
    (ld : K.lookup dT = some ⟨ocd, odd, .seq its n, sld⟩)
    (hb : ∀ (kV doc pm : Value) (an : Option Addr) (cdv ct : Value) (us : List Value), us.length = s.ps.length → ∃ k, bindArgs (PySem.W.fnOf s.x qual (defArgs s.st) (defBody s.st) (defScope s.st) (.ref dT) kV doc pm an cdv ct) ⟨us, []⟩ = seqItems? (.ref dT) >>= k ∧ k (some its) = pure (s.ps.zip us))
    (hl : D.lam.contains s.N = true → ∃ c P, cdv = .ref c ∧ LamX.TabB base mg c P ∧ (P, qual ++ ".<locals>." ++ "<lambda>") ∈ tabs ∧ ∀ p ∈ tabs, p.1 = P → p.2 = qual ++ ".<locals>." ++ "<lambda>") :
    DefOk (D.tab prog w K mg base adT clT xcT tabs) s.q a := by
  refine spot_def h ⟨⟨_, _, _, _, _, _, _, _, _, _, rfl, l, c⟩⟩ (fun s' us X hlen => ?_) hl
  rw [List.append_nil] at hlen ⊢
  obtain ⟨k, e1, e2⟩ := hb kV doc pm an cdv ct us hlen
  refine BindsTo.of_looks fun M => ?_
  rw [e1]
  exact looks_items X ld rfl (.of_pure e2)
end Snd
-- R0
namespace Mi
/-! ### what repr takes -/
mutual
/-- ints of a dozen figures, true signs, no dict -/
def PD.shy : PD → Bool
  | .int i => decide (i.natAbs < 1000000000000)
  | .str x => x.all (fun c => decide (c < 1114112))
  | .lst xs => PD.shyAll xs
  | .tup xs => PD.shyAll xs
  | .dic _ => false
  | _ => true
def PD.shyAll : List PD → Bool
  | [] => true
  | x :: xs => PD.shy x && PD.shyAll xs
end
mutual
/-- how great data is -/
def PD.wt : PD → Nat
  | .int _ => 41
  | .str x => x.length
  | .lst xs => PD.wtAll xs
  | .tup xs => PD.wtAll xs
  | _ => 0
def PD.wtAll : List PD → Nat
  | [] => 0
  | x :: xs => PD.wt x + 1 + PD.wtAll xs
end
/-- a dict of a few short scalars -/
def PD.shyD : PD → Bool
  | .dic kvs => kvs.all (fun kv => (kv.1.scal && kv.2.scal) && (kv.1.shy && kv.2.shy) && (decide (kv.1.wt ≤ 1000) && decide (kv.2.wt ≤ 1000))) && decide (kvs.length ≤ 100)
  | _ => false
structure HasRp (P : Prog) : Prop where
  len : ∀ d : PD, d.shy = true → d.wt ≤ 1000000 → (P.rp d).length ≤ big
  lenD : ∀ d : PD, d.shyD = true → (P.rp d).length ≤ big
mutual
theorem PD.shy_shw : ∀ d : PD, d.shy = true → d.shw = true ∧ d.nodic = true
  | .non, _ => ⟨rfl, rfl⟩
  | .bl _, _ => ⟨rfl, rfl⟩
  | .int i, h => by
    simp only [PD.shy, decide_eq_true_eq] at h
    refine ⟨?_, rfl⟩
    simp only [PD.shw, decide_eq_true_eq]
    have : (1000000000000 : Nat) ≤ 2 ^ 1000 := by decide +kernel
    omega
  | .str _, _ => ⟨rfl, rfl⟩
  | .lst xs, h => PD.shyAll_shw xs h
  | .tup xs, h => PD.shyAll_shw xs h
  | .dic _, h => by simp [PD.shy] at h
theorem PD.shyAll_shw : ∀ xs : List PD, PD.shyAll xs = true → PD.shwAll xs = true ∧ PD.nodicAll xs = true
  | [], _ => ⟨rfl, rfl⟩
  | x :: xs, h => by
    have h' : x.shy = true ∧ PD.shyAll xs = true := by simpa only [PD.shyAll, Bool.and_eq_true] using h
    obtain ⟨a, b⟩ := PD.shy_shw x h'.1
    obtain ⟨c, d⟩ := PD.shyAll_shw xs h'.2
    exact ⟨by simp only [PD.shwAll, a, c, Bool.and_self], by simp only [PD.nodicAll, b, d, Bool.and_self]⟩
end
theorem b_repr {P : Prog} (R : HasRp P) {st : Sto} {Q : Post} {x : MV} {d : PD} (h : toPD 30 st x = some d) (s : d.shy = true) (w : d.wt ≤ 1000000) (q : Q (.str (P.rp d)) st) : opBlt P.rp .repr [x] st Q :=
  ⟨d, h, (PD.shy_shw d s).1, .inl (PD.shy_shw d s).2, R.len d s w, q⟩
theorem PD.shyD_flat {d : PD} (h : d.shyD = true) : d.shw = true ∧ d.flat = true := by
  have main : ∀ kvs : List (PD × PD), (kvs.all (fun kv => (kv.1.scal && kv.2.scal) && (kv.1.shy && kv.2.shy) && (decide (kv.1.wt ≤ 1000) && decide (kv.2.wt ≤ 1000)))) = true → PD.shwKv kvs = true ∧ (kvs.all fun kv => kv.1.scal && kv.2.scal) = true := by
    intro kvs
    induction kvs with
    | nil => exact fun _ => ⟨rfl, rfl⟩
    | cons kv kvs ih =>
      intro h
      obtain ⟨k, v⟩ := kv
      simp only [List.all_cons, Bool.and_eq_true] at h ⊢
      obtain ⟨⟨⟨⟨a, b⟩, c, d⟩, _⟩, r⟩ := h
      obtain ⟨i, j⟩ := ih r
      refine ⟨?_, ⟨a, b⟩, j⟩
      simp only [PD.shwKv, Bool.and_eq_true]
      exact ⟨⟨(PD.shy_shw k c).1, (PD.shy_shw v d).1⟩, i⟩
  cases d with
  | dic kvs =>
    simp only [PD.shyD, Bool.and_eq_true] at h
    have h := h.1
    simp only [PD.shw, PD.flat]
    exact main kvs h
  | _ => simp [PD.shyD] at h
theorem b_reprD {P : Prog} (R : HasRp P) {st : Sto} {Q : Post} {x : MV} {d : PD} (h : toPD 30 st x = some d) (s : d.shyD = true) (q : Q (.str (P.rp d)) st) : opBlt P.rp .repr [x] st Q :=
  ⟨d, h, (PD.shyD_flat s).1, .inr (PD.shyD_flat s).2, R.lenD d s, q⟩
end Mi
-- S28
namespace Snd
open PySem L2 Mi
mutual
theorem shy_leaves : ∀ d : PD, d.shy = true → (pyD d).leavesShort 13 = true ∧ (pyD d).weight ≤ d.wt
  | .non, _ => ⟨rfl, Nat.le_refl _⟩
  | .bl _, _ => ⟨rfl, Nat.le_refl _⟩
  | .int i, h => by
    simp only [PD.shy, decide_eq_true_eq] at h
    refine ⟨?_, ?_⟩
    · simp only [pyD, PyData.leavesShort, decide_eq_true_eq]
      exact PyData.shown_int_le (by simpa using h)
    · show (if i == 0 then 0 else i.natAbs.log2 + 1) ≤ 41
      split
      · omega
      · rename_i z
        have : i.natAbs.log2 < 41 := (Nat.log2_lt (by simpa using z)).mpr (by omega)
        omega
  | .str x, h => by
    simp only [PD.shy, List.all_eq_true, decide_eq_true_eq] at h
    refine ⟨?_, ?_⟩
    · simp only [pyD, PyData.leavesShort, List.all_eq_true, decide_eq_true_eq]
      intro c hc
      have := h c hc
      have e : (16 : Nat) ^ 8 = 4294967296 := by decide
      omega
    · show x.toArray.size ≤ x.length
      simp
  | .lst xs, h => shyAll_leaves xs h
  | .tup xs, h => shyAll_leaves xs h
  | .dic _, h => by simp [PD.shy] at h
theorem shyAll_leaves : ∀ xs : List PD, PD.shyAll xs = true → PyData.leavesShortAll 13 (pyDs xs) = true ∧ PyData.weightAll (pyDs xs) ≤ PD.wtAll xs
  | [], _ => ⟨rfl, Nat.le_refl _⟩
  | x :: xs, h => by
    have h' : x.shy = true ∧ PD.shyAll xs = true := by simpa only [PD.shyAll, Bool.and_eq_true] using h
    obtain ⟨a, b⟩ := shy_leaves x h'.1
    obtain ⟨c, d⟩ := shyAll_leaves xs h'.2
    refine ⟨by simp only [pyDs, PyData.leavesShortAll, a, c, Bool.and_self], ?_⟩
    simp only [pyDs, PyData.weightAll, PD.wtAll]
    omega
end
theorem shyD_leaves : ∀ {kvs : List (PD × PD)}, (kvs.all (fun kv => (kv.1.scal && kv.2.scal) && (kv.1.shy && kv.2.shy) && (decide (kv.1.wt ≤ 1000) && decide (kv.2.wt ≤ 1000)))) = true → PyData.leavesShortKv 13 (pyDk kvs) = true ∧ PyData.weightKv (pyDk kvs) ≤ kvs.length * 2010
  | [], _ => ⟨rfl, Nat.zero_le _⟩
  | (k, v) :: r, h => by
    simp only [List.all_cons, Bool.and_eq_true, decide_eq_true_eq] at h
    obtain ⟨⟨⟨_, s1, s2⟩, w1, w2⟩, h⟩ := h
    obtain ⟨a1, a2⟩ := shy_leaves k s1
    obtain ⟨b1, b2⟩ := shy_leaves v s2
    obtain ⟨c1, c2⟩ := shyD_leaves h
    refine ⟨by simp only [pyDk, PyData.leavesShortKv, a1, b1, c1, Bool.and_self], ?_⟩
    simp only [pyDk, PyData.weightKv, List.length_cons]
    omega
theorem rp_has (P : Prog) (h : P.rp = rpD) : HasRp P := ⟨fun d s w => by
  rw [h, len_rp]
  obtain ⟨a, b⟩ := shy_leaves d s
  have := PyData.shown_le 13 (by decide) (pyD d) a
  have h2 : (13 + 2) * (pyD d).weight ≤ 15 * 1000000 := Nat.mul_le_mul (by decide) (by omega)
  simp only [big]
  omega, fun d s => by
  rw [h, len_rp]
  cases d with
  | dic kvs =>
    simp only [PD.shyD, Bool.and_eq_true, decide_eq_true_eq] at s
    obtain ⟨a, b⟩ := shyD_leaves s.1
    have a' : (pyD (.dic kvs)).leavesShort 13 = true := by simp only [pyD, PyData.leavesShort]; exact a
    have b' : (pyD (.dic kvs)).weight ≤ 300000 := by
      simp only [pyD, PyData.weight]
      have : kvs.length * 2010 ≤ 100 * 2010 := Nat.mul_le_mul_right _ s.2
      omega
    have := PyData.shown_le 13 (by decide) (pyD (.dic kvs)) a'
    have h2 : (13 + 2) * (pyD (.dic kvs)).weight ≤ 15 * 300000 := Nat.mul_le_mul (by decide) b'
    simp only [big]
    omega
  | _ => simp [PD.shyD] at s⟩
end Snd
-- S29
namespace Snd
open PySem L2 Mi
open PySem.W PySem.Calls PyProof.Rows PyProof.V PySem.Spec
/-- what the own errors' __init__ is, at fI; D: the class that it stands in -/
structure IniOk (prog : Program) (K : PySem.W.Frag) (fI D : Addr) : Prop where
  st : nsIn K cStatics "thirdparty.any" = some none
  top : (prog.main.scope.names.lookup ("super" : Str)).isSome = false
  ty : typeIn K (.ref fI) = some (.type "function")
  ini : ∃ (name qual sn vn : Str) (params : Arguments) (body : List Stmt) (scope : Scope) (kV doc pm ct oc ccl cl : Value) (an od cdd cld : Option Addr) (osl ccs csl : Array (Option Value)) (cc cda : Addr) (ar : Arg) (vs : Array Value) (file : Str) (tf : Tok) (cdD : ClassData),
    InitT sn vn "value" scope body ∧
    K.lookup fI = some ⟨oc, od, .func (ksFn name qual params body scope .none kV doc pm an (.ref cda) ct cc), osl⟩ ∧ codeIn K (.ref cda) qual = true ∧ (params.posonlyargs ++ params.args).head? = some ar ∧ ar.arg = sn ∧
    (∀ us : List Value, us.length = 2 → bindArgs (ksFn name qual params body scope .none kV doc pm an (.ref cda) ct cc) ⟨us, []⟩ = pure ([sn, vn].zip us)) ∧
    K.lookup cda = some ⟨ccl, cdd, .fields vs, ccs⟩ ∧ vs[2]? = some (.str file tf) ∧ ((prog.main.file : Str) == file) = true ∧
    K.lookup cc = some ⟨cl, cld, .cell (some (.ref D)), csl⟩ ∧ clsIn K D = some cdD
theorem exc_mk {prog : Program} {K : PySem.W.Frag} {fI D C : Addr} (I : IniOk prog K fI D)
    {nm q : Str} {N : Addr} {bs bm : List Value} {sn : List Str} {sub : List Value} {ab : Bool} {col : Option Bool} {dd : Option Addr} {m0 m1 m2 m3 m5 : Option Value}
    (l : K.lookup C = some (excClassObj nm q C N bs bm true sn sub ab col dd m0 m1 m2 m3 m5 "ValueError.__new__")) (rv : HandSPX.refsVE bm = true)
    (sa : findIn K (.ref C) "__setattr__" = some (some (.builtin "object.__setattr__"))) (be : subIn K (.ref C) (.type "BaseException") = some true) (ty : typeIn K (.ref C) = some (.type "type")) (kc : keepIn K (.ref C) = true)
    (ve : subIn K (.ref C) (.type "ValueError") = some true) (no : findIn K (.ref C) "value" = some none) (ii : findIn K (.ref C) "__init__" = some (some (.ref fI))) (mr : mroIn K C (.ref D) = some true)
    (su : ks_superIn K C D "__init__" = some (some (.builtin "ValueError.__init__"))) : ExcOk prog K "value" C := by
  obtain ⟨name, qual, sn', vn, params, body, scope, kV, doc, pm, ct, oc, ccl, cl, an, od, cdd, cld, osl, ccs, csl, cc, cda, ar, vs, file, tf, cdD, h1, h2, h3, h4, h5, h6, h7, h8, h9, h10, h11⟩ := I.ini
  exact ⟨⟨⟨nm, q, N, bs, bm, sn, sub, ab, col, dd, m0, m1, m2, m3, m5, l, rv⟩, sa, be, ty, kc⟩, I.st, I.top, ve, no,
    ⟨name, qual, sn', vn, params, body, scope, kV, doc, pm, ct, oc, ccl, cl, an, od, cdd, cld, osl, ccs, csl, fI, cc, cda, D, ar, vs, file, tf, cdD, ii, I.ty, h1, h2, h3, h4, h5, h6, h7, h8, h9, h10, h11, mr, su⟩⟩
/-- the text of an own error's __init__, told by a look -/
def iniB (sn vn : Str) (st : Stmt) : Bool := match defBody st with
  | [.Expr (.Call (.Attribute (.Call (.Name s1 _) [] [] _) i1 p2) [.Name v1 _] [] p4) _, .Assign [.Attribute (.Name s2 _) f1 _] (.Name v2 _) _] =>
    decide (s1 = "super") && decide (i1 = "__init__") && decide (v1 = vn) && decide (s2 = sn) && decide (f1 = "value") && decide (v2 = vn) && (p2.endLine == p4.line)
  | _ => false
theorem iniB_ok {sn vn : Str} {st : Stmt} (h : iniB sn vn st = true) : ∃ p0 p1 p2 p3 p4 p5 p6 p7 p8 p9, defBody st = [.Expr (.Call (.Attribute (.Call (.Name "super" p0) [] [] p1) "__init__" p2) [.Name vn p3] [] p4) p5, .Assign [.Attribute (.Name sn p6) "value" p7] (.Name vn p8) p9] ∧ (p2.endLine == p4.line) = true := by
  unfold iniB at h
  split at h
  · rename_i e
    simp only [Bool.and_eq_true, decide_eq_true_eq] at h
    obtain ⟨⟨⟨⟨⟨⟨rfl, rfl⟩, rfl⟩, rfl⟩, rfl⟩, rfl⟩, hl⟩ := h
    exact ⟨_, _, _, _, _, _, _, _, _, _, e, hl⟩
  · exact absurd h Bool.false_ne_true
def scB (sn vn : Str) (sc : Scope) : Bool :=
  decide (sc.names.lookup ("super" : Str) = some .globalImplicit) && decide (sc.names.lookup ("__class__" : Str) = some .free) && decide (sc.names.lookup sn = some .local) && decide (sc.names.lookup vn = some .local) &&
  sc.names.all (fun x => !decide (x.2 = .cell)) && !sc.isCoroutine && !sc.isGenerator && decide (sc.kind = .function) && decide (sn ≠ vn) && !(sn == ("__debug__" : Str)) && !(vn == ("__debug__" : Str))
theorem init_mk {sn vn : Str} {st : Stmt} (h : iniB sn vn st = true) (s : scB sn vn (defScope st) = true) : InitT sn vn "value" (defScope st) (defBody st) := by
  unfold scB at s
  simp only [Bool.and_eq_true, decide_eq_true_eq, Bool.not_eq_true', List.all_eq_true, decide_eq_false_iff_not] at s
  obtain ⟨⟨⟨⟨⟨⟨⟨⟨⟨⟨a1, a2⟩, a3⟩, a4⟩, a5⟩, a6⟩, a7⟩, a8⟩, a9⟩, a10⟩, a11⟩ := s
  exact ⟨iniB_ok h, a1, a2, a3, a4, a5, a6, a7, a8, a9, a10, a11⟩
/-- an error of the class C is what «except CS» names -/
theorem exm_mk {K : PySem.W.Frag} {C S : Addr} (h1 : PySem.W.subIn K (.ref C) (.type "BaseException") = some true) (h2 : PySem.W.isClsIn K S = true) (h3 : PySem.W.typeIn K (.ref S) = some (.type "type")) (h4 : PySem.W.subIn K (.ref C) (.ref S) = some true)
    (h5 : PySem.W.subIn K (.ref S) (.type "BaseException") = some true) : PySem.W.exmOne K (.ref C) (.ref S) = some true := by
  have e1 : (PySem.W.subIn K (.ref S) (.type "BaseException") == some true) = true := by rw [h5] <;> rfl
  have e3 : (PySem.W.subIn K (.ref C) (.type "BaseException") == some true) = true := by rw [h1] <;> rfl
  have e2 : ((PySem.W.clsIn K S).isSome && PySem.W.typeIn K (.ref S) == some (.type "type")) = true := by
    have h2' : (PySem.W.clsIn K S).isSome = true := h2
    rw [h2', h3] <;> rfl
  first
    | (show (if (PySem.W.subIn K (.ref S) (.type "BaseException") == some true) = true then (if ((PySem.W.clsIn K S).isSome && PySem.W.typeIn K (.ref S) == some (.type "type")) = true then PySem.W.subIn K (.ref C) (.ref S) else none) else none) = some true
       rw [if_pos e1, if_pos e2]
       exact h4)
    | (show (if (PySem.W.subIn K (.ref C) (.type "BaseException") == some true) = true then (if ((PySem.W.clsIn K S).isSome && PySem.W.typeIn K (.ref S) == some (.type "type")) = true then PySem.W.subIn K (.ref C) (.ref S) else none) else none) = some true
       rw [if_pos e3, if_pos e2]
       exact h4)
/-- a def that hears errors, told by a look -/
def hrdOk (look caught back e err : Str) (st : Stmt) : Bool :=
  hrdB (defScope st) look caught back e err (defBody st) && !(e == ("__debug__" : Str)) && [look, caught, back, err].all (fun y => !(y == ("__debug__" : Str)) && !(y == ("__classdict__" : Str))) && isVis (defScope st) look && C8.scC [look, caught, back, err] [look] (defScope st)
theorem heard_mk {T : Tab} {f look caught back e err : Str} {a CS : Addr} {st : Stmt} {fd : FuncData} (hg : T.mg f = some (.ref a)) (F : L2.Fun T.K f f st a fd) (b : Binds T.K fd [look] []) (h : hrdOk look caught back e err st = true) (he : T.mg e = some (.ref CS))
    (hx : ∀ c C, T.cl.x c = some C → PySem.W.exmOne T.K (.ref C) (.ref CS) = some true) : HeardOk T f := by
  unfold hrdOk at h
  simp only [Bool.and_eq_true, Bool.not_eq_true', List.all_eq_true] at h
  obtain ⟨⟨⟨⟨h1, h2⟩, h3⟩, h4⟩, h5⟩ := h
  exact ⟨a, CS, st, fd, look, caught, back, e, err, hg, F, C8.fnScope_by h5, b, h1, h2, h3, isVis_ok h4, he, hx⟩
/-- the table of a def's code -/
def TabsOf (q : Program) (mg : Str → Option Value) (h : Heap) : Prop := ∀ d ∈ recsOf q, ∃ (a : Addr) (o : Obj) (fd : FuncData) (c P : Addr), mg d.name = some (.ref a) ∧ h.get? a = some o ∧ o.data = .func fd ∧ fd.code = .ref c ∧ h.IsCode c P #[] ∧ h.TableAt c P #[]
def noTbl (K : PySem.W.Frag) : Bool := K.all fun e => match e.2.data with | .fields vs => vs.size != 0 | _ => true
theorem lookup_all {α β : Type} [BEq α] [LawfulBEq α] {f : α × β → Bool} : ∀ {l : List (α × β)} {k : α} {v : β}, l.all f = true → l.lookup k = some v → f (k, v) = true
  | [], _, _, _, h => by simp at h
  | (a, b) :: r, k, v, ha, h => by
    rw [List.all_cons, Bool.and_eq_true] at ha
    rw [List.lookup_cons] at h
    by_cases e : k = a
    · subst e
      simp at h
      subst h
      exact ha.1
    · have : (k == a) = false := by simp [e]
      rw [this] at h
      exact lookup_all ha.2 h
theorem lam_at {q : Program} {mg : Str → Option Value} {h : Heap} {K : PySem.W.Frag} (Tb : TabsOf q mg h) (X : K.In h) (hn : noTbl K = true) {x : Str} (hx : ((recsOf q).any fun d => d.name == x) = true) {f : Addr} (hm : mg x = some (.ref f)) {oc : Value} {od : Option Addr} {fd : FuncData} {sl : Array (Option Value)}
    (hl : K.lookup f = some ⟨oc, od, .func fd, sl⟩) : ∃ c P, fd.code = .ref c ∧ h.get? P = some { cls := .none, data := .fields #[] } ∧ K.lookup P = none ∧ PySem.W.CodeHd h c P := by
  obtain ⟨d, hd, e⟩ := List.any_eq_true.mp hx
  have e : d.name = x := by simpa using e
  obtain ⟨a, o, fd', c, P, h1, h2, h3, h4, ⟨o1, vs1, file, tf, flags, tg, inF, text, tt, op, i1, i2, i3, i4, i5, i6, i7, i8, i9, i10, i11⟩, ⟨⟨o2, vs2, j1, j2, j3, j4⟩, j5⟩⟩ := Tb d hd
  rw [e, hm] at h1
  cases h1
  have := X _ _ hl
  rw [h2] at this
  cases this
  cases h3
  rw [i1] at j1
  cases j1
  rw [i2] at j3
  cases j3
  refine ⟨c, P, h4, j5, ?_, ⟨o1, vs1, file, tf, flags, tg, inF, text, tt, i1, j2, i2, j4, i3, i4, i5, i6, i7, i11⟩⟩
  cases z : K.lookup P with
  | none => rfl
  | some o =>
    have := X _ _ z
    rw [j5] at this
    cases this
    have := lookup_all hn z
    simp at this
end Snd
-- B0
namespace Mi
/-- a rule: what is to be shown, what it comes to -/
class Wp (A : Prop) (B : outParam Prop) : Prop where
  go : B → A
/-! rules for proofs about models -/
theorem loop_inv {α : Type} {ok : Sto → Prop} {step : MV → α → Sto → (α → Sto → Prop) → Prop} {xs : List MV} {Q : α → Sto → Prop} (J : List MV → α → Sto → Prop)
    (hok : ∀ p a st, J p a st → ok st) (hs : ∀ p x r a st k, xs = p ++ x :: r → J p a st → (∀ a' st', J (p ++ [x]) a' st' → k a' st') → step x a st k) (hq : ∀ a st, J xs a st → Q a st) :
    ∀ {p r : List MV} {a : α} {st : Sto}, xs = p ++ r → J p a st → loop ok step r a st Q
  | p, [], a, st, e, h => by
    have : xs = p := by simpa using e
    exact ⟨hok _ _ _ h, hq _ _ (this ▸ h)⟩
  | p, x :: r, a, st, e, h => ⟨hok _ _ _ h, hs p x r a st _ e h fun a' st' h' => loop_inv J hok hs hq (by simp [e]) h'⟩
theorem loop_go {α : Type} {ok : Sto → Prop} {step : MV → α → Sto → (α → Sto → Prop) → Prop} {xs : List MV} {Q : α → Sto → Prop} {a : α} {st : Sto} (J : List MV → α → Sto → Prop) (h0 : J [] a st)
    (hok : ∀ p a st, J p a st → ok st) (hs : ∀ p x r a st k, xs = p ++ x :: r → J p a st → (∀ a' st', J (p ++ [x]) a' st' → k a' st') → step x a st k) (hq : ∀ a st, J xs a st → Q a st) : loop ok step xs a st Q :=
  loop_inv J hok hs hq (p := []) rfl h0
theorem while_inv {test : Env → Sto → (Bool → Sto → Prop) → Prop} {body : Ends → Env → Sto → Prop} {D : Ends} (J : Nat → Env → Sto → Prop)
    (h : ∀ m σ st k, J m σ st → (∀ m' σ' st', m' < m → J m' σ' st' → k σ' st') → test σ st fun b st' => if b then body { D with nx := k, ct := k, bk := D.nx } σ st' else D.nx σ st') :
    ∀ {n m : Nat} {σ : Env} {st : Sto}, m < n → J m σ st → whileN test body D n σ st
  | 0, m, σ, st, hm, _ => absurd hm (Nat.not_lt_zero _)
  | n + 1, m, σ, st, hm, hj => h m σ st _ hj fun m' σ' st' hl hj' => while_inv J h (Nat.lt_of_lt_of_le hl (Nat.le_of_lt_succ hm)) hj'
theorem while_go {test : Env → Sto → (Bool → Sto → Prop) → Prop} {body : Ends → Env → Sto → Prop} {D : Ends} (J : Nat → Env → Sto → Prop) {m : Nat} {σ : Env} {st : Sto} (h0 : J m σ st)
    (h : ∀ m σ st k, J m σ st → (∀ m' σ' st', m' < m → J m' σ' st' → k σ' st') → test σ st fun b st' => if b then body { D with nx := k, ct := k, bk := D.nx } σ st' else D.nx σ st') :
    ∃ n, whileN test body D n σ st := ⟨m + 1, while_inv J h (Nat.lt_succ_self _) h0⟩
section
variable {P : Prog} {F : Phi} {σ : Env} {st : Sto} {Q : Post} {X : Xp} {D : Ends}
/-! one rule for each form -/
theorem w_var {i : Nat} {v : MV} (h : σ[i]? = some (some v)) (q : Q v st) : wpE P F (.var i) σ st Q X := ⟨v, h, q⟩
theorem w_con {v : MV} (q : Q v st) : wpE P F (.con v) σ st Q X := q
instance {v : MV} : Wp (wpE P F (.con v) σ st Q X) (Q v st) := ⟨w_con⟩
theorem w_tup {es : IA} (h : wpA P F es σ st (fun vs st' => vs.length ≤ big ∧ Q (.tup vs) st') X) : wpE P F (.tup es) σ st Q X := h
instance {es : IA} : Wp (wpE P F (.tup es) σ st Q X) (wpA P F es σ st (fun vs st' => vs.length ≤ big ∧ Q (.tup vs) st') X) := ⟨w_tup⟩
theorem w_lst {es : IA} (h : wpA P F es σ st (fun vs st' => vs.length ≤ big ∧ Q (.ref st'.length) (st' ++ [.lst vs])) X) : wpE P F (.lst es) σ st Q X := h
instance {es : IA} : Wp (wpE P F (.lst es) σ st Q X) (wpA P F es σ st (fun vs st' => vs.length ≤ big ∧ Q (.ref st'.length) (st' ++ [.lst vs])) X) := ⟨w_lst⟩
theorem w_dic {ps : IP} (h : wpP P F ps σ st (fun kvs st' => kvs.all (fun kv => isKey kv.1) = true ∧ kvs.length ≤ 15 ∧ Q (.ref st'.length) (st' ++ [.dic false (kvs.foldl (fun acc kv => kPut kv.1 kv.2 acc) [])])) X) : wpE P F (.dic ps) σ st Q X := h
instance {ps : IP} : Wp (wpE P F (.dic ps) σ st Q X) (wpP P F ps σ st (fun kvs st' => kvs.all (fun kv => isKey kv.1) = true ∧ kvs.length ≤ 15 ∧ Q (.ref st'.length) (st' ++ [.dic false (kvs.foldl (fun acc kv => kPut kv.1 kv.2 acc) [])])) X) := ⟨w_dic⟩
theorem w_bin {o : BOp} {a b : IE} (h : wpE P F a σ st (fun x st1 => wpE P F b σ st1 (fun y st2 => opBin o x y st2 Q) X) X) : wpE P F (.bin o a b) σ st Q X := h
instance {o : BOp} {a b : IE} : Wp (wpE P F (.bin o a b) σ st Q X) (wpE P F a σ st (fun x st1 => wpE P F b σ st1 (fun y st2 => opBin o x y st2 Q) X) X) := ⟨w_bin⟩
theorem w_neg {a : IE} (h : wpE P F a σ st (fun x st1 => ∃ i, x = .int i ∧ Q (.int (-i)) st1) X) : wpE P F (.neg a) σ st Q X := h
instance {a : IE} : Wp (wpE P F (.neg a) σ st Q X) (wpE P F a σ st (fun x st1 => ∃ i, x = .int i ∧ Q (.int (-i)) st1) X) := ⟨w_neg⟩
theorem w_cmp {o : COp} {a b : IE} (h : wpE P F a σ st (fun x st1 => wpE P F b σ st1 (fun y st2 => opCmp o x y st2 fun t st3 => Q (.bl t) st3) X) X) : wpE P F (.cmp o a b) σ st Q X := h
instance {o : COp} {a b : IE} : Wp (wpE P F (.cmp o a b) σ st Q X) (wpE P F a σ st (fun x st1 => wpE P F b σ st1 (fun y st2 => opCmp o x y st2 fun t st3 => Q (.bl t) st3) X) X) := ⟨w_cmp⟩
theorem w_chn {o1 o2 : COp} {a b c : IE} (h : wpE P F a σ st (fun x st1 => wpE P F b σ st1 (fun y st2 => opCmp o1 x y st2 fun t st3 =>
      if t then wpE P F c σ st3 (fun z st4 => opCmp o2 y z st4 fun u st5 => Q (.bl u) st5) X else Q (.bl false) st3) X) X) : wpE P F (.chn o1 o2 a b c) σ st Q X := h
instance {o1 o2 : COp} {a b c : IE} : Wp (wpE P F (.chn o1 o2 a b c) σ st Q X) (wpE P F a σ st (fun x st1 => wpE P F b σ st1 (fun y st2 => opCmp o1 x y st2 fun t st3 =>
      if t then wpE P F c σ st3 (fun z st4 => opCmp o2 y z st4 fun u st5 => Q (.bl u) st5) X else Q (.bl false) st3) X) X) := ⟨w_chn⟩
theorem w_and {a b : IE} (h : wpE P F a σ st (fun x st1 => ∃ t, truth st1 x = some t ∧ if t then wpE P F b σ st1 Q X else Q x st1) X) : wpE P F (.and a b) σ st Q X := h
instance {a b : IE} : Wp (wpE P F (.and a b) σ st Q X) (wpE P F a σ st (fun x st1 => ∃ t, truth st1 x = some t ∧ if t then wpE P F b σ st1 Q X else Q x st1) X) := ⟨w_and⟩
theorem w_or {a b : IE} (h : wpE P F a σ st (fun x st1 => ∃ t, truth st1 x = some t ∧ if t then Q x st1 else wpE P F b σ st1 Q X) X) : wpE P F (.or a b) σ st Q X := h
instance {a b : IE} : Wp (wpE P F (.or a b) σ st Q X) (wpE P F a σ st (fun x st1 => ∃ t, truth st1 x = some t ∧ if t then Q x st1 else wpE P F b σ st1 Q X) X) := ⟨w_or⟩
theorem w_not {a : IE} (h : wpE P F a σ st (fun x st1 => ∃ t, truth st1 x = some t ∧ Q (.bl (!t)) st1) X) : wpE P F (.not a) σ st Q X := h
instance {a : IE} : Wp (wpE P F (.not a) σ st Q X) (wpE P F a σ st (fun x st1 => ∃ t, truth st1 x = some t ∧ Q (.bl (!t)) st1) X) := ⟨w_not⟩
theorem w_ite {c a b : IE} (h : wpE P F c σ st (fun x st1 => ∃ t, truth st1 x = some t ∧ if t then wpE P F a σ st1 Q X else wpE P F b σ st1 Q X) X) : wpE P F (.ite c a b) σ st Q X := h
instance {c a b : IE} : Wp (wpE P F (.ite c a b) σ st Q X) (wpE P F c σ st (fun x st1 => ∃ t, truth st1 x = some t ∧ if t then wpE P F a σ st1 Q X else wpE P F b σ st1 Q X) X) := ⟨w_ite⟩
theorem w_sub {a i : IE} (h : wpE P F a σ st (fun x st1 => wpE P F i σ st1 (fun y st2 => opGet P F x y st2 Q X) X) X) : wpE P F (.sub a i) σ st Q X := h
instance {a i : IE} : Wp (wpE P F (.sub a i) σ st Q X) (wpE P F a σ st (fun x st1 => wpE P F i σ st1 (fun y st2 => opGet P F x y st2 Q X) X) X) := ⟨w_sub⟩
theorem w_sli {a : IE} {lo hi : IO} (h : wpE P F a σ st (fun x st1 => wpO P F lo σ st1 (fun l st2 => wpO P F hi σ st2 (fun h st3 => opSli x l h st3 Q) X) X) X) : wpE P F (.sli a lo hi) σ st Q X := h
instance {a : IE} {lo hi : IO} : Wp (wpE P F (.sli a lo hi) σ st Q X) (wpE P F a σ st (fun x st1 => wpO P F lo σ st1 (fun l st2 => wpO P F hi σ st2 (fun h st3 => opSli x l h st3 Q) X) X) X) := ⟨w_sli⟩
theorem w_rev {a : IE} (h : wpE P F a σ st (fun x st1 => (∃ a xs, x = .ref a ∧ st1[a]? = some (.lst xs) ∧ Q (.ref st1.length) (st1 ++ [.lst xs.reverse])) ∨ (∃ xs, x = .tup xs ∧ Q (.tup xs.reverse) st1) ∨ ∃ s, x = .str s ∧ s.length ≤ big ∧ Q (.str s.reverse) st1) X) : wpE P F (.rev a) σ st Q X := h
instance {a : IE} : Wp (wpE P F (.rev a) σ st Q X) (wpE P F a σ st (fun x st1 => (∃ a xs, x = .ref a ∧ st1[a]? = some (.lst xs) ∧ Q (.ref st1.length) (st1 ++ [.lst xs.reverse])) ∨ (∃ xs, x = .tup xs ∧ Q (.tup xs.reverse) st1) ∨ ∃ s, x = .str s ∧ s.length ≤ big ∧ Q (.str s.reverse) st1) X) := ⟨w_rev⟩
theorem w_fld {a : IE} {f : String} (h : wpE P F a σ st (fun x st1 => opFld P F f x st1 Q X) X) : wpE P F (.fld a f) σ st Q X := h
instance {a : IE} {f : String} : Wp (wpE P F (.fld a f) σ st Q X) (wpE P F a σ st (fun x st1 => opFld P F f x st1 Q X) X) := ⟨w_fld⟩
theorem w_call {f : String} {es : IA} (h : wpA P F es σ st (fun vs st1 => F f vs st1 Q X) X) : wpE P F (.call f es) σ st Q X := h
instance {f : String} {es : IA} : Wp (wpE P F (.call f es) σ st Q X) (wpA P F es σ st (fun vs st1 => F f vs st1 Q X) X) := ⟨w_call⟩
theorem w_bmt {a : IE} {m : BMt} {es : IA} (h : wpE P F a σ st (fun x st1 => btOk m st1 x = true ∧ wpA P F es σ st1 (fun vs st2 => opBmt m x vs st2 Q) X) X) : wpE P F (.bmt a m es) σ st Q X := h
instance {a : IE} {m : BMt} {es : IA} : Wp (wpE P F (.bmt a m es) σ st Q X) (wpE P F a σ st (fun x st1 => btOk m st1 x = true ∧ wpA P F es σ st1 (fun vs st2 => opBmt m x vs st2 Q) X) X) := ⟨w_bmt⟩
theorem w_blt {b : Blt} {es : IA} (h : wpA P F es σ st (fun vs st1 => opBlt P.rp b vs st1 Q) X) : wpE P F (.blt b es) σ st Q X := h
instance {b : Blt} {es : IA} : Wp (wpE P F (.blt b es) σ st Q X) (wpA P F es σ st (fun vs st1 => opBlt P.rp b vs st1 Q) X) := ⟨w_blt⟩
theorem w_isi {a : IE} {t : ITy} (h : wpE P F a σ st (fun x st1 => opIsi t x st1 fun b st2 => Q (.bl b) st2) X) : wpE P F (.isi a t) σ st Q X := h
instance {a : IE} {t : ITy} : Wp (wpE P F (.isi a t) σ st Q X) (wpE P F a σ st (fun x st1 => opIsi t x st1 fun b st2 => Q (.bl b) st2) X) := ⟨w_isi⟩
theorem w_nil {Q : List MV → Sto → Prop} (q : Q [] st) : wpA P F .nil σ st Q X := q
instance {Q : List MV → Sto → Prop} : Wp (wpA P F .nil σ st Q X) (Q [] st) := ⟨w_nil⟩
theorem w_arg {e : IE} {r : IA} {Q : List MV → Sto → Prop} (h : wpE P F e σ st (fun v st1 => wpA P F r σ st1 (fun vs st2 => Q (v :: vs) st2) X) X) : wpA P F (.cons e r) σ st Q X := h
instance {e : IE} {r : IA} {Q : List MV → Sto → Prop} : Wp (wpA P F (.cons e r) σ st Q X) (wpE P F e σ st (fun v st1 => wpA P F r σ st1 (fun vs st2 => Q (v :: vs) st2) X) X) := ⟨w_arg⟩
theorem w_star {e : IE} {r : IA} {Q : List MV → Sto → Prop} (h : wpE P F e σ st (fun v st1 => ∃ xs, seqOf st1 v = some xs ∧ wpA P F r σ st1 (fun vs st2 => Q (xs ++ vs) st2) X) X) : wpA P F (.star e r) σ st Q X := h
instance {e : IE} {r : IA} {Q : List MV → Sto → Prop} : Wp (wpA P F (.star e r) σ st Q X) (wpE P F e σ st (fun v st1 => ∃ xs, seqOf st1 v = some xs ∧ wpA P F r σ st1 (fun vs st2 => Q (xs ++ vs) st2) X) X) := ⟨w_star⟩
theorem w_pn {Q : List (MV × MV) → Sto → Prop} (q : Q [] st) : wpP P F .nil σ st Q X := q
instance {Q : List (MV × MV) → Sto → Prop} : Wp (wpP P F .nil σ st Q X) (Q [] st) := ⟨w_pn⟩
theorem w_pc {k v : IE} {r : IP} {Q : List (MV × MV) → Sto → Prop} (h : wpE P F k σ st (fun x st1 => wpE P F v σ st1 (fun y st2 => wpP P F r σ st2 (fun kvs st3 => Q ((x, y) :: kvs) st3) X) X) X) : wpP P F (.cons k v r) σ st Q X := h
instance {k v : IE} {r : IP} {Q : List (MV × MV) → Sto → Prop} : Wp (wpP P F (.cons k v r) σ st Q X) (wpE P F k σ st (fun x st1 => wpE P F v σ st1 (fun y st2 => wpP P F r σ st2 (fun kvs st3 => Q ((x, y) :: kvs) st3) X) X) X) := ⟨w_pc⟩
theorem w_tg {i : Nat} {v : MV} {Q : Env → Prop} (q : Q (σ.set i (some v))) : setTg (.name i) v σ Q := q
instance {i : Nat} {v : MV} {Q : Env → Prop} : Wp (setTg (.name i) v σ Q) (Q (σ.set i (some v))) := ⟨w_tg⟩
theorem w_ng {i : Int} {R : Int → Prop} (q : R i) : ∃ j, MV.int i = .int j ∧ R j := ⟨i, rfl, q⟩
instance {i : Int} {R : Int → Prop} : Wp (∃ j, MV.int i = .int j ∧ R j) (R i) := ⟨w_ng⟩
theorem w_cn {Q : Bool → Sto → Prop} (q : Q true st) : wpO' P F .non σ st Q := q
instance {Q : Bool → Sto → Prop} : Wp (wpO' P F .non σ st Q) (Q true st) := ⟨w_cn⟩
theorem w_cs {e : IE} {Q : Bool → Sto → Prop} (h : wpE P F e σ st (fun v st1 => ∃ t, truth st1 v = some t ∧ Q t st1) (fun _ _ _ => False)) : wpO' P F (.som e) σ st Q := h
instance {e : IE} {Q : Bool → Sto → Prop} : Wp (wpO' P F (.som e) σ st Q) (wpE P F e σ st (fun v st1 => ∃ t, truth st1 v = some t ∧ Q t st1) (fun _ _ _ => False)) := ⟨w_cs⟩
theorem w_tt {ns : List Nat} {vs : List MV} {Q : Env → Prop} (hl : vs.length = ns.length) (q : Q ((ns.zip vs).foldl (fun s p => s.set p.1 (some p.2)) σ)) : setTg (.tup ns) (.tup vs) σ Q := ⟨vs, rfl, hl, q⟩
theorem w_ts {ns : List Nat} {vs : List MV} {Q : Env → Prop} (hl : vs.length = ns.length) (q : Q ((ns.zip vs).foldl (fun s p => s.set p.1 (some p.2)) σ)) : setTgS (.tup ns) (.tup vs) σ st Q := ⟨vs, rfl, hl, q⟩
theorem b_sum {rp : PD → Tx} {p : Nat} {ns : List Int} (h : st[p]? = some (.lst (ns.map .int))) (q : Q (.int ns.sum) st) : opBlt rp .sum [.ref p] st Q := ⟨ns, h, q⟩
theorem w_gm {n : Nat} {c m q : String} {fs : List (String × MV)} {R : Nat → String → List (String × MV) → String → Prop} (h : st[n]? = some (.ins c fs)) (hl : fs.lookup m = none) (hm : P.mt c m = some q) (r : R n c fs q) :
    ∃ n' c' fs' q', MV.ref n = .ref n' ∧ st[n']? = some (.ins c' fs') ∧ fs'.lookup m = none ∧ P.mt c' m = some q' ∧ R n' c' fs' q' := ⟨n, c, fs, q, rfl, h, hl, hm, r⟩
theorem w_end {D : Ends} (q : D.nx σ st) : wpSs P F [] D σ st := q
instance {D : Ends} : Wp (wpSs P F [] D σ st) (D.nx σ st) := ⟨w_end⟩
theorem w_seq {s : IS} {r : List IS} (h : wpS P F s { D with nx := fun σ1 st1 => wpSs P F r D σ1 st1 } σ st) : wpSs P F (s :: r) D σ st := h
instance {s : IS} {r : List IS} : Wp (wpSs P F (s :: r) D σ st) (wpS P F s { D with nx := fun σ1 st1 => wpSs P F r D σ1 st1 } σ st) := ⟨w_seq⟩
theorem w_expr {e : IE} (h : wpE P F e σ st (fun _ st1 => D.nx σ st1) (fun c v st' => D.ex c v σ st')) : wpS P F (.expr e) D σ st := h
instance {e : IE} : Wp (wpS P F (.expr e) D σ st) (wpE P F e σ st (fun _ st1 => D.nx σ st1) (fun c v st' => D.ex c v σ st')) := ⟨w_expr⟩
theorem w_set {i : Nat} {e : IE} (h : wpE P F e σ st (fun v st1 => D.nx (σ.set i (some v)) st1) (fun c v st' => D.ex c v σ st')) : wpS P F (.asg (.name i) e) D σ st := h
instance {i : Nat} {e : IE} : Wp (wpS P F (.asg (.name i) e) D σ st) (wpE P F e σ st (fun v st1 => D.nx (σ.set i (some v)) st1) (fun c v st' => D.ex c v σ st')) := ⟨w_set⟩
theorem w_asg {ns : List Nat} {e : IE} (h : wpE P F e σ st (fun v st1 => setTgS (.tup ns) v σ st1 fun σ1 => D.nx σ1 st1) (fun c v st' => D.ex c v σ st')) : wpS P F (.asg (.tup ns) e) D σ st := h
instance {ns : List Nat} {e : IE} : Wp (wpS P F (.asg (.tup ns) e) D σ st) (wpE P F e σ st (fun v st1 => setTgS (.tup ns) v σ st1 fun σ1 => D.nx σ1 st1) (fun c v st' => D.ex c v σ st')) := ⟨w_asg⟩
theorem w_par {ns : List Nat} {es : IA} (h : wpA P F es σ st (fun vs st1 => vs.length = ns.length ∧ D.nx ((ns.zip vs).foldl (fun s p => s.set p.1 (some p.2)) σ) st1) (fun c v st' => D.ex c v σ st')) : wpS P F (.par ns es) D σ st := h
instance {ns : List Nat} {es : IA} : Wp (wpS P F (.par ns es) D σ st) (wpA P F es σ st (fun vs st1 => vs.length = ns.length ∧ D.nx ((ns.zip vs).foldl (fun s p => s.set p.1 (some p.2)) σ) st1) (fun c v st' => D.ex c v σ st')) := ⟨w_par⟩
theorem w_setsub {o i e : IE} (h : wpE P F e σ st (fun v st1 => wpE P F o σ st1 (fun x st2 => wpE P F i σ st2 (fun y st3 => opSet x y v st3 fun st4 => D.nx σ st4)
      (fun c v st' => D.ex c v σ st')) (fun c v st' => D.ex c v σ st')) (fun c v st' => D.ex c v σ st')) : wpS P F (.setsub o i e) D σ st := h
instance {o i e : IE} : Wp (wpS P F (.setsub o i e) D σ st) (wpE P F e σ st (fun v st1 => wpE P F o σ st1 (fun x st2 => wpE P F i σ st2 (fun y st3 => opSet x y v st3 fun st4 => D.nx σ st4)
      (fun c v st' => D.ex c v σ st')) (fun c v st' => D.ex c v σ st')) (fun c v st' => D.ex c v σ st')) := ⟨w_setsub⟩
theorem w_iff {c : IE} {a b : List IS} (h : wpE P F c σ st (fun x st1 => ∃ t, truth st1 x = some t ∧ if t then wpSs P F a D σ st1 else wpSs P F b D σ st1) (fun c v st' => D.ex c v σ st')) : wpS P F (.iff c a b) D σ st := h
instance {c : IE} {a b : List IS} : Wp (wpS P F (.iff c a b) D σ st) (wpE P F c σ st (fun x st1 => ∃ t, truth st1 x = some t ∧ if t then wpSs P F a D σ st1 else wpSs P F b D σ st1) (fun c v st' => D.ex c v σ st')) := ⟨w_iff⟩
theorem w_ret {e : IE} (h : wpE P F e σ st D.rt (fun c v st' => D.ex c v σ st')) : wpS P F (.ret e) D σ st := h
instance {e : IE} : Wp (wpS P F (.ret e) D σ st) (wpE P F e σ st D.rt (fun c v st' => D.ex c v σ st')) := ⟨w_ret⟩
theorem w_tr {b : Bool} {R : Bool → Prop} (h : R b) : ∃ t, truth st (.bl b) = some t ∧ R t := ⟨b, rfl, h⟩
instance {b : Bool} {R : Bool → Prop} : Wp (∃ t, truth st (.bl b) = some t ∧ R t) (R b) := ⟨w_tr⟩
theorem w_raise {c : String} {e : IE} (h : wpE P F e σ st (fun v st1 => D.ex c v σ st1) (fun c v st' => D.ex c v σ st')) : wpS P F (.raise c e) D σ st := h
instance {c : String} {e : IE} : Wp (wpS P F (.raise c e) D σ st) (wpE P F e σ st (fun v st1 => D.ex c v σ st1) (fun c v st' => D.ex c v σ st')) := ⟨w_raise⟩
theorem w_heard {f : String} {a : IE} (h : wpE P F a σ st (fun v st1 => Q (.tup [.non, v]) st1) (fun c v st1 => Q (.tup [.ref st1.length, .non]) (st1 ++ [.exc c v]))) : wpE P F (.heard f a) σ st Q X := h
instance {f : String} {a : IE} : Wp (wpE P F (.heard f a) σ st Q X) (wpE P F a σ st (fun v st1 => Q (.tup [.non, v]) st1) (fun c v st1 => Q (.tup [.ref st1.length, .non]) (st1 ++ [.exc c v]))) := ⟨w_heard⟩
theorem w_lzip {a b : IE} (h : wpE P F a σ st (fun x st1 => wpE P F b σ st1 (fun y st2 => ∃ xs ys, lstOf st2 x = some xs ∧ lstOf st2 y = some ys ∧ Q (.ref st2.length) (st2 ++ [.lst ((xs.zip ys).map fun z => .tup [z.1, z.2])])) X) X) : wpE P F (.lzip a b) σ st Q X := h
instance {a b : IE} : Wp (wpE P F (.lzip a b) σ st Q X) (wpE P F a σ st (fun x st1 => wpE P F b σ st1 (fun y st2 => ∃ xs ys, lstOf st2 x = some xs ∧ lstOf st2 y = some ys ∧ Q (.ref st2.length) (st2 ++ [.lst ((xs.zip ys).map fun z => .tup [z.1, z.2])])) X) X) := ⟨w_lzip⟩
theorem w_oeq {neg : Bool} {a b : IE} (h : wpE P F a σ st (fun x st1 => wpE P F b σ st1 (fun y st2 => ∃ n c fs q, x = .ref n ∧ st2[n]? = some (.ins c fs) ∧ P.mt c "__eq__" = some q ∧ eqOk st2 c y ∧ F q [x, y] st2 (fun v st3 => ∃ t, v = .bl t ∧ Q (.bl (if neg then !t else t)) st3) X) X) X) : wpE P F (.oeq neg a b) σ st Q X := h
instance {neg : Bool} {a b : IE} : Wp (wpE P F (.oeq neg a b) σ st Q X) (wpE P F a σ st (fun x st1 => wpE P F b σ st1 (fun y st2 => ∃ n c fs q, x = .ref n ∧ st2[n]? = some (.ins c fs) ∧ P.mt c "__eq__" = some q ∧ eqOk st2 c y ∧ F q [x, y] st2 (fun v st3 => ∃ t, v = .bl t ∧ Q (.bl (if neg then !t else t)) st3) X) X) X) := ⟨w_oeq⟩
theorem w_olen {a : IE} (h : wpE P F a σ st (fun x st1 => ∃ n c fs q, x = .ref n ∧ st1[n]? = some (.ins c fs) ∧ P.mt c "__len__" = some q ∧ F q [x] st1 (fun v st2 => ∃ i : Int, v = .int i ∧ 0 ≤ i ∧ i < 2 ^ 62 ∧ Q v st2) X) X) : wpE P F (.olen a) σ st Q X := h
instance {a : IE} : Wp (wpE P F (.olen a) σ st Q X) (wpE P F a σ st (fun x st1 => ∃ n c fs q, x = .ref n ∧ st1[n]? = some (.ins c fs) ∧ P.mt c "__len__" = some q ∧ F q [x] st1 (fun v st2 => ∃ i : Int, v = .int i ∧ 0 ≤ i ∧ i < 2 ^ 62 ∧ Q v st2) X) X) := ⟨w_olen⟩
theorem w_iso {a : IE} {c : String} (h : wpE P F a σ st (fun x st1 => opIso c x st1 fun b st2 => Q (.bl b) st2) X) : wpE P F (.iso a c) σ st Q X := h
instance {a : IE} {c : String} : Wp (wpE P F (.iso a c) σ st Q X) (wpE P F a σ st (fun x st1 => opIso c x st1 fun b st2 => Q (.bl b) st2) X) := ⟨w_iso⟩
theorem w_mkx {c : String} {a : IE} (h : wpE P F a σ st (fun v st1 => Q (.ref st1.length) (st1 ++ [.exc c v])) X) : wpE P F (.mkx c a) σ st Q X := h
instance {c : String} {a : IE} : Wp (wpE P F (.mkx c a) σ st Q X) (wpE P F a σ st (fun v st1 => Q (.ref st1.length) (st1 ++ [.exc c v])) X) := ⟨w_mkx⟩
theorem w_mkb {a : IE} (h : wpE P F a σ st (fun _ st1 => Q (.ref st1.length) (st1 ++ [.bex])) X) : wpE P F (.mkb a) σ st Q X := h
instance {a : IE} : Wp (wpE P F (.mkb a) σ st Q X) (wpE P F a σ st (fun _ st1 => Q (.ref st1.length) (st1 ++ [.bex])) X) := ⟨w_mkb⟩
theorem w_isv {a : IE} (h : wpE P F a σ st (fun x st1 => anyXc st1 x ∧ Q (.bl true) st1) X) : wpE P F (.isv a) σ st Q X := h
instance {a : IE} : Wp (wpE P F (.isv a) σ st Q X) (wpE P F a σ st (fun x st1 => anyXc st1 x ∧ Q (.bl true) st1) X) := ⟨w_isv⟩
theorem w_isx {c : String} {a : IE} (h : wpE P F a σ st (fun x st1 => (noXc st1 x ∧ Q (.bl false) st1) ∨ ∃ n c' v, x = .ref n ∧ st1[n]? = some (.exc c' v) ∧ Q (.bl (P.xs c' c)) st1) X) : wpE P F (.isx a c) σ st Q X := h
instance {c : String} {a : IE} : Wp (wpE P F (.isx a c) σ st Q X) (wpE P F a σ st (fun x st1 => (noXc st1 x ∧ Q (.bl false) st1) ∨ ∃ n c' v, x = .ref n ∧ st1[n]? = some (.exc c' v) ∧ Q (.bl (P.xs c' c)) st1) X) := ⟨w_isx⟩
theorem w_lit {a : IE} (h : wpE P F a σ st (fun x st1 => ∃ n kvs, x = .ref n ∧ st1[n]? = some (.dic false kvs) ∧ Q (.ref st1.length) (st1 ++ [.lst (kvs.map fun kv => .tup [kv.1, kv.2])])) X) : wpE P F (.lit a) σ st Q X := h
instance {a : IE} : Wp (wpE P F (.lit a) σ st Q X) (wpE P F a σ st (fun x st1 => ∃ n kvs, x = .ref n ∧ st1[n]? = some (.dic false kvs) ∧ Q (.ref st1.length) (st1 ++ [.lst (kvs.map fun kv => .tup [kv.1, kv.2])])) X) := ⟨w_lit⟩
theorem w_lset {a : IE} (h : wpE P F a σ st (fun x st1 => ∃ ts : List Tx, lstOf st1 x = some (ts.map .str) ∧ ts.length ≤ 4000 ∧ Q (.int ((uniq ts).length : Nat)) st1) X) : wpE P F (.lset a) σ st Q X := h
instance {a : IE} : Wp (wpE P F (.lset a) σ st Q X) (wpE P F a σ st (fun x st1 => ∃ ts : List Tx, lstOf st1 x = some (ts.map .str) ∧ ts.length ≤ 4000 ∧ Q (.int ((uniq ts).length : Nat)) st1) X) := ⟨w_lset⟩
theorem w_lstT {o : BOp} {a : IE} {w : Tx} {r : IA} (h : wpE P F a σ st (fun x st1 => opBin o x (.str w) st1 (fun v st2 => wpA P F r σ st2 (fun vs st3 => (v :: vs).length ≤ big ∧ Q (.ref st3.length) (st3 ++ [.lst (v :: vs)])) X)) X) : wpE P F (.lstT o a w r) σ st Q X := h
instance {o : BOp} {a : IE} {w : Tx} {r : IA} : Wp (wpE P F (.lstT o a w r) σ st Q X) (wpE P F a σ st (fun x st1 => opBin o x (.str w) st1 (fun v st2 => wpA P F r σ st2 (fun vs st3 => (v :: vs).length ≤ big ∧ Q (.ref st3.length) (st3 ++ [.lst (v :: vs)])) X)) X) := ⟨w_lstT⟩
theorem w_rep {a : IE} {c : Nat} {z : Tx} {r : IA} {Q : List MV → Sto → Prop} (h : wpE P F a σ st (fun v st1 => ∃ t, v = .str t ∧ t.length + (t.length + 1) * z.length ≤ big ∧ wpA P F r σ st1 (fun vs st2 => Q (.str (joinBy z (splitOn c t)) :: vs) st2) X) X) : wpA P F (.rep a c z r) σ st Q X := h
instance {a : IE} {c : Nat} {z : Tx} {r : IA} {Q : List MV → Sto → Prop} : Wp (wpA P F (.rep a c z r) σ st Q X) (wpE P F a σ st (fun v st1 => ∃ t, v = .str t ∧ t.length + (t.length + 1) * z.length ≤ big ∧ wpA P F r σ st1 (fun vs st2 => Q (.str (joinBy z (splitOn c t)) :: vs) st2) X) X) := ⟨w_rep⟩
theorem w_set2 {o i p j e : IE} (h : wpE P F e σ st (fun w st1 => ∃ u v, w = .tup [u, v] ∧ wpE P F o σ st1 (fun x st2 => wpE P F i σ st2 (fun y st3 => opSet x y u st3 fun st4 =>
      wpE P F p σ st4 (fun x' st5 => wpE P F j σ st5 (fun y' st6 => opSet x' y' v st6 fun st7 => D.nx σ st7) (fun c v st' => D.ex c v σ st')) (fun c v st' => D.ex c v σ st'))
      (fun c v st' => D.ex c v σ st')) (fun c v st' => D.ex c v σ st')) (fun c v st' => D.ex c v σ st')) : wpS P F (.set2 o i p j e) D σ st := h
instance {o i p j e : IE} : Wp (wpS P F (.set2 o i p j e) D σ st) (wpE P F e σ st (fun w st1 => ∃ u v, w = .tup [u, v] ∧ wpE P F o σ st1 (fun x st2 => wpE P F i σ st2 (fun y st3 => opSet x y u st3 fun st4 =>
      wpE P F p σ st4 (fun x' st5 => wpE P F j σ st5 (fun y' st6 => opSet x' y' v st6 fun st7 => D.nx σ st7) (fun c v st' => D.ex c v σ st')) (fun c v st' => D.ex c v σ st'))
      (fun c v st' => D.ex c v σ st')) (fun c v st' => D.ex c v σ st')) (fun c v st' => D.ex c v σ st')) := ⟨w_set2⟩
theorem w_ino {neg : Bool} {a b : IE} (h : wpE P F a σ st (fun x st1 => wpE P F b σ st1 (fun y st2 => ∃ n c fs q, y = .ref n ∧ st2[n]? = some (.ins c fs) ∧ P.mt c "__contains__" = some q ∧ F q [y, x] st2 (fun v st3 => ∃ t, v = .bl t ∧ Q (.bl (if neg then !t else t)) st3) X) X) X) : wpE P F (.ino neg a b) σ st Q X := h
instance {neg : Bool} {a b : IE} : Wp (wpE P F (.ino neg a b) σ st Q X) (wpE P F a σ st (fun x st1 => wpE P F b σ st1 (fun y st2 => ∃ n c fs q, y = .ref n ∧ st2[n]? = some (.ins c fs) ∧ P.mt c "__contains__" = some q ∧ F q [y, x] st2 (fun v st3 => ∃ t, v = .bl t ∧ Q (.bl (if neg then !t else t)) st3) X) X) X) := ⟨w_ino⟩
theorem w_zip {a b : IE} {R : It → Sto → (Sto → (Sto → Prop) → Prop) → Prop} (h : wpE P F a σ st (fun v st1 => wpE P F b σ st1 (fun w st2 => ∃ xs ys, seqOf st2 v = some xs ∧ seqOf st2 w = some ys ∧
      R ⟨(xs.zip ys).map fun z => .tup [z.1, z.2], fun st' => seqOf st' v = some xs ∧ seqOf st' w = some ys⟩ st2 fun st3 k => k st3) X) X) : wpI P F (.zip a b) σ st R X := h
instance {a b : IE} {R : It → Sto → (Sto → (Sto → Prop) → Prop) → Prop} : Wp (wpI P F (.zip a b) σ st R X) (wpE P F a σ st (fun v st1 => wpE P F b σ st1 (fun w st2 => ∃ xs ys, seqOf st2 v = some xs ∧ seqOf st2 w = some ys ∧
      R ⟨(xs.zip ys).map fun z => .tup [z.1, z.2], fun st' => seqOf st' v = some xs ∧ seqOf st' w = some ys⟩ st2 fun st3 k => k st3) X) X) := ⟨w_zip⟩
theorem w_pr {l r : Nat ⊕ List Nat} {x y : MV} {Q : Env → Prop} (h : set1 l x σ fun σ1 => set1 r y σ1 Q) : setTg (.pr l r) (.tup [x, y]) σ Q := ⟨x, y, rfl, h⟩
theorem w_asgp {l r : Nat ⊕ List Nat} {e : IE} (h : wpE P F e σ st (fun v st1 => setTgS (.pr l r) v σ st1 fun σ1 => D.nx σ1 st1) (fun c v st' => D.ex c v σ st')) : wpS P F (.asg (.pr l r) e) D σ st := h
instance {l r : Nat ⊕ List Nat} {e : IE} : Wp (wpS P F (.asg (.pr l r) e) D σ st) (wpE P F e σ st (fun v st1 => setTgS (.pr l r) v σ st1 fun σ1 => D.nx σ1 st1) (fun c v st' => D.ex c v σ st')) := ⟨w_asgp⟩
/-! the store -/
theorem get_set {p : Nat} {o o' : MO} (h : st[p]? = some o) : (st.set p o')[p]? = some o' := List.getElem?_set_self (List.getElem?_eq_some_iff.mp h).1
theorem get_app {p : Nat} {o : MO} {t : Sto} (h : st[p]? = some o) : (st ++ t)[p]? = some o := by
  rw [List.getElem?_append_left (List.getElem?_eq_some_iff.mp h).1]; exact h
theorem get_new {o : MO} : (st ++ [o])[st.length]? = some o := by simp
theorem get_other {p q : Nat} {o o' : MO} (n : p ≠ q) (h : st[q]? = some o) : (st.set p o')[q]? = some o := by rw [List.getElem?_set_ne n]; exact h
/-! operations -/
theorem o_add {i j : Int} (q : Q (.int (i + j)) st) : opBin .add (.int i) (.int j) st Q := q
instance {i j : Int} : Wp (opBin .add (.int i) (.int j) st Q) (Q (.int (i + j)) st) := ⟨o_add⟩
theorem o_sub {i j : Int} (q : Q (.int (i - j)) st) : opBin .sub (.int i) (.int j) st Q := q
instance {i j : Int} : Wp (opBin .sub (.int i) (.int j) st Q) (Q (.int (i - j)) st) := ⟨o_sub⟩
theorem o_mod {i j : Int} (h : 0 < j) (q : Q (.int (i % j)) st) : opBin .mod (.int i) (.int j) st Q := ⟨h, q⟩
theorem o_div {i j : Int} (h : 0 < j) (h2 : j < 1073741824) (q : Q (.int (i / j)) st) : opBin .fdiv (.int i) (.int j) st Q := ⟨h, h2, q⟩
theorem o_mul {i j : Int} (h : i.natAbs < 2 ^ 64 ∨ j.natAbs < 2 ^ 64) (q : Q (.int (i * j)) st) : opBin .mul (.int i) (.int j) st Q := ⟨h.elim .inl fun z => .inr (.inl z), q⟩
theorem o_pow {i j : Int} (h : 0 ≤ j) (h1 : j ≤ 1000) (h2 : i.natAbs < 2 ^ 5000) (q : Q (.int (i ^ j.toNat)) st) : opBin .pow (.int i) (.int j) st Q := ⟨h, h1, h2, q⟩
theorem b_int {rp : PD → Tx} {i : Int} (q : Q (.int i) st) : opBlt rp .int [.int i] st Q := q
instance {rp : PD → Tx} {i : Int} : Wp (opBlt rp .int [.int i] st Q) (Q (.int i) st) := ⟨b_int⟩
theorem b_abs {rp : PD → Tx} {i : Int} (q : Q (.int (if i < 0 then -i else i)) st) : opBlt rp .abs [.int i] st Q := q
instance {rp : PD → Tx} {i : Int} : Wp (opBlt rp .abs [.int i] st Q) (Q (.int (if i < 0 then -i else i)) st) := ⟨b_abs⟩
theorem b_max {rp : PD → Tx} {i j : Int} (q : Q (.int (if j > i then j else i)) st) : opBlt rp .max [.int i, .int j] st Q := q
instance {rp : PD → Tx} {i j : Int} : Wp (opBlt rp .max [.int i, .int j] st Q) (Q (.int (if j > i then j else i)) st) := ⟨b_max⟩
theorem b_min {rp : PD → Tx} {i j : Int} (q : Q (.int (if j < i then j else i)) st) : opBlt rp .min [.int i, .int j] st Q := q
instance {rp : PD → Tx} {i j : Int} : Wp (opBlt rp .min [.int i, .int j] st Q) (Q (.int (if j < i then j else i)) st) := ⟨b_min⟩
theorem c_lt {i j : Int} {Q : Bool → Sto → Prop} (q : Q (decide (i < j)) st) : opCmp .lt (.int i) (.int j) st Q := ⟨i, j, rfl, rfl, q⟩
instance {i j : Int} {Q : Bool → Sto → Prop} : Wp (opCmp .lt (.int i) (.int j) st Q) (Q (decide (i < j)) st) := ⟨c_lt⟩
theorem c_le {i j : Int} {Q : Bool → Sto → Prop} (q : Q (decide (i ≤ j)) st) : opCmp .le (.int i) (.int j) st Q := ⟨i, j, rfl, rfl, q⟩
instance {i j : Int} {Q : Bool → Sto → Prop} : Wp (opCmp .le (.int i) (.int j) st Q) (Q (decide (i ≤ j)) st) := ⟨c_le⟩
theorem c_gt {i j : Int} {Q : Bool → Sto → Prop} (q : Q (decide (j < i)) st) : opCmp .gt (.int i) (.int j) st Q := ⟨i, j, rfl, rfl, q⟩
instance {i j : Int} {Q : Bool → Sto → Prop} : Wp (opCmp .gt (.int i) (.int j) st Q) (Q (decide (j < i)) st) := ⟨c_gt⟩
theorem c_ge {i j : Int} {Q : Bool → Sto → Prop} (q : Q (decide (j ≤ i)) st) : opCmp .ge (.int i) (.int j) st Q := ⟨i, j, rfl, rfl, q⟩
instance {i j : Int} {Q : Bool → Sto → Prop} : Wp (opCmp .ge (.int i) (.int j) st Q) (Q (decide (j ≤ i)) st) := ⟨c_ge⟩
theorem e_int {i j : Int} {Q : Bool → Sto → Prop} (q : Q (i == j) st) : opCmp .eq (.int i) (.int j) st Q := .inl ⟨.int i, .int j, rfl, rfl, .inl rfl, q⟩
instance {i j : Int} {Q : Bool → Sto → Prop} : Wp (opCmp .eq (.int i) (.int j) st Q) (Q (i == j) st) := ⟨e_int⟩
theorem e_str {x y : Tx} {Q : Bool → Sto → Prop} (q : Q (x == y) st) : opCmp .eq (.str x) (.str y) st Q := .inl ⟨.str x, .str y, rfl, rfl, .inl rfl, q⟩
instance {x y : Tx} {Q : Bool → Sto → Prop} : Wp (opCmp .eq (.str x) (.str y) st Q) (Q (x == y) st) := ⟨e_str⟩
theorem n_int {i j : Int} {Q : Bool → Sto → Prop} (q : Q (!(i == j)) st) : opCmp .ne (.int i) (.int j) st Q := .inl ⟨.int i, .int j, rfl, rfl, .inl rfl, q⟩
instance {i j : Int} {Q : Bool → Sto → Prop} : Wp (opCmp .ne (.int i) (.int j) st Q) (Q (!(i == j)) st) := ⟨n_int⟩
theorem n_str {x y : Tx} {Q : Bool → Sto → Prop} (q : Q (!(x == y)) st) : opCmp .ne (.str x) (.str y) st Q := .inl ⟨.str x, .str y, rfl, rfl, .inl rfl, q⟩
instance {x y : Tx} {Q : Bool → Sto → Prop} : Wp (opCmp .ne (.str x) (.str y) st Q) (Q (!(x == y)) st) := ⟨n_str⟩
theorem l_tup {rp : PD → Tx} {xs : List MV} (q : Q (.int xs.length) st) : opBlt rp .len [.tup xs] st Q := q
instance {rp : PD → Tx} {xs : List MV} : Wp (opBlt rp .len [.tup xs] st Q) (Q (.int xs.length) st) := ⟨l_tup⟩
theorem l_lsv {rp : PD → Tx} {xs : List MV} (q : Q (.int xs.length) st) : opBlt rp .len [.lsv xs] st Q := q
instance {rp : PD → Tx} {xs : List MV} : Wp (opBlt rp .len [.lsv xs] st Q) (Q (.int xs.length) st) := ⟨l_lsv⟩
theorem l_lst {rp : PD → Tx} {p : Nat} {xs : List MV} (h : st[p]? = some (.lst xs)) (q : Q (.int xs.length) st) : opBlt rp .len [.ref p] st Q := by simp only [opBlt, h]; exact q
theorem l_dic {rp : PD → Tx} {p : Nat} {kvs : List (MV × MV)} (h : st[p]? = some (.dic false kvs)) (q : Q (.int kvs.length) st) : opBlt rp .len [.ref p] st Q := by simp only [opBlt, h]; exact q
theorem l_str {rp : PD → Tx} {s : Tx} (h : s.length ≤ big) (q : Q (.int s.length) st) : opBlt rp .len [.str s] st Q := ⟨h, q⟩
theorem g_lst {p : Nat} {xs : List MV} {n : Int} {v : MV} (h : st[p]? = some (.lst xs)) (hv : (ixOf xs.length n).bind (xs[·]?) = some v) (q : Q v st) : opGet P F (.ref p) (.int n) st Q X := .inl (by simp only [opSub, h]; exact ⟨n, v, rfl, hv, q⟩)
theorem g_tup {xs : List MV} {n : Int} {v : MV} (hv : (ixOf xs.length n).bind (xs[·]?) = some v) (q : Q v st) : opGet P F (.tup xs) (.int n) st Q X := .inl ⟨n, v, rfl, hv, q⟩
theorem g_dic {p : Nat} {lk : Bool} {kvs : List (MV × MV)} {k v : MV} (h : st[p]? = some (.dic lk kvs)) (hk : isKey k = true) (hv : kLook k kvs = some v) (q : Q v st) : opGet P F (.ref p) k st Q X := .inl (by simp only [opSub, h]; exact ⟨v, hk, hv, q⟩)
theorem s_lst {p : Nat} {xs : List MV} {n : Int} {k : Nat} {v : MV} {Q : Sto → Prop} (h : st[p]? = some (.lst xs)) (hk : ixOf xs.length n = some k) (q : Q (st.set p (.lst (xs.set k v)))) : opSet (.ref p) (.int n) v st Q := by
  simp only [opSet, h]; exact ⟨n, k, rfl, hk, q⟩
theorem f_at {n : Nat} {c f : String} {fs : List (String × MV)} {v : MV} (h : st[n]? = some (.ins c fs)) (hp : P.pr c f = some none) (hv : fs.lookup f = some v) (q : Q v st) : opFld P F f (.ref n) st Q X := .inl ⟨n, c, fs, rfl, h, .inl ⟨hp, v, hv, q⟩⟩
theorem f_prop {n : Nat} {c f q : String} {fs : List (String × MV)} (h : st[n]? = some (.ins c fs)) (hp : P.pr c f = some (some q)) (hq : F q [.ref n] st Q fun _ _ _ => False) : opFld P F f (.ref n) st Q X := .inl ⟨n, c, fs, rfl, h, .inr ⟨q, hp, hq⟩⟩
theorem g_own {n : Nat} {c q : String} {fs : List (String × MV)} {y : MV} (h : st[n]? = some (.ins c fs)) (hp : P.mt c "__getitem__" = some q) (hq : F q [.ref n, y] st Q X) : opGet P F (.ref n) y st Q X := .inr ⟨n, c, fs, q, rfl, h, hp, hq⟩
theorem w_mth {a : IE} {m : String} {es : IA} (h : wpE P F a σ st (fun x st1 => ∃ n c fs q, x = .ref n ∧ st1[n]? = some (.ins c fs) ∧ fs.lookup m = none ∧ P.mt c m = some q ∧ wpA P F es σ st1 (fun vs st2 => F q (x :: vs) st2 Q X) X) X) : wpE P F (.mth a m es) σ st Q X := h
instance {a : IE} {m : String} {es : IA} : Wp (wpE P F (.mth a m es) σ st Q X) (wpE P F a σ st (fun x st1 => ∃ n c fs q, x = .ref n ∧ st1[n]? = some (.ins c fs) ∧ fs.lookup m = none ∧ P.mt c m = some q ∧ wpA P F es σ st1 (fun vs st2 => F q (x :: vs) st2 Q X) X) X) := ⟨w_mth⟩
theorem i_dic {p : Nat} {lk : Bool} {kvs : List (MV × MV)} {k : MV} {Q : Bool → Sto → Prop} (h : st[p]? = some (.dic lk kvs)) (hk : isKey k = true) (q : Q (kLook k kvs).isSome st) : opCmp .inn k (.ref p) st Q := by
  simp only [opCmp, opIn, h]; exact ⟨hk, q⟩
theorem ni_dic {p : Nat} {lk : Bool} {kvs : List (MV × MV)} {k : MV} {Q : Bool → Sto → Prop} (h : st[p]? = some (.dic lk kvs)) (hk : isKey k = true) (q : Q (!(kLook k kvs).isSome) st) : opCmp .nin k (.ref p) st Q := by
  simp only [opCmp, opIn, h]; exact ⟨hk, q⟩
theorem t_str {s : Tx} (q : Q (.tup [.str s]) st) : Q (.tup [.str s]) st := q
theorem is_str {s : Tx} {Q : Bool → Sto → Prop} (q : Q true st) : opIsi .str (.str s) st Q := q
instance {s : Tx} {Q : Bool → Sto → Prop} : Wp (opIsi .str (.str s) st Q) (Q true st) := ⟨is_str⟩
theorem u_lst {rp : PD → Tx} {p : Nat} {xs : List MV} (h : st[p]? = some (.lst xs)) (q : Q (.tup xs) st) : opBlt rp .tuple [.ref p] st Q := by simp only [opBlt, h]; exact q
theorem u_dic {rp : PD → Tx} {p : Nat} {lk : Bool} {kvs : List (MV × MV)} (h : st[p]? = some (.dic lk kvs)) (q : Q (.tup (keysOf kvs)) st) : opBlt rp .tuple [.ref p] st Q := by simp only [opBlt, h]; exact q
theorem u_tup {rp : PD → Tx} {xs : List MV} (q : Q (.tup xs) st) : opBlt rp .tuple [.tup xs] st Q := q
instance {rp : PD → Tx} {xs : List MV} : Wp (opBlt rp .tuple [.tup xs] st Q) (Q (.tup xs) st) := ⟨u_tup⟩
theorem l_new {rp : PD → Tx} {xs : List MV} (q : Q (.ref st.length) (st ++ [.lst xs])) : opBlt rp .list [.tup xs] st Q := q
instance {rp : PD → Tx} {xs : List MV} : Wp (opBlt rp .list [.tup xs] st Q) (Q (.ref st.length) (st ++ [.lst xs])) := ⟨l_new⟩
theorem l_cpy {rp : PD → Tx} {p : Nat} {xs : List MV} (h : st[p]? = some (.lst xs)) (q : Q (.ref st.length) (st ++ [.lst xs])) : opBlt rp .list [.ref p] st Q := by simp only [opBlt, h]; exact q
theorem m_app {p : Nat} {xs : List MV} {v : MV} (h : st[p]? = some (.lst xs)) (hl : xs.length < big) (q : Q .non (st.set p (.lst (xs ++ [v])))) : opBmt .append (.ref p) [v] st Q := ⟨p, xs, v, rfl, h, rfl, hl, q⟩
theorem m_pop {p k : Nat} {xs : List MV} {i : Int} {v : MV} (h : st[p]? = some (.lst xs)) (hl : xs.length < big) (hk : ixOf xs.length i = some k) (hv : xs[k]? = some v) (q : Q v (st.set p (.lst (xs.eraseIdx k)))) : opBmt .pop (.ref p) [.int i] st Q := .inl ⟨p, xs, i, k, v, rfl, h, rfl, hl, hk, hv, q⟩
theorem m_pop0 {p : Nat} {xs : List MV} {v : MV} (h : st[p]? = some (.lst xs)) (hv : xs[xs.length - 1]? = some v) (q : Q v (st.set p (.lst xs.dropLast))) : opBmt .pop (.ref p) [] st Q := .inr ⟨p, xs, v, rfl, h, rfl, hv, q⟩
theorem m_get {p : Nat} {kvs : List (MV × MV)} {k v : MV} (h : st[p]? = some (.dic false kvs)) (hk : isKey k = true) (q : Q ((kLook k kvs).getD v) st) : opBmt .get (.ref p) [k, v] st Q := ⟨p, kvs, k, v, rfl, h, rfl, hk, q⟩
theorem s_dic {p : Nat} {kvs : List (MV × MV)} {k v : MV} {Q : Sto → Prop} (h : st[p]? = some (.dic false kvs)) (hk : isKey k = true) (hl : kvs.length < big) (q : Q (st.set p (.dic false (kPut k v kvs)))) : opSet (.ref p) k v st Q := by
  simp only [opSet, h]; exact ⟨hk, hl, q⟩
theorem bt_lst {p : Nat} {xs : List MV} {m : BMt} (h : st[p]? = some (.lst xs)) (hm : (match m with | .append => true | .extend => true | .pop => true | .index => true | _ => false) = true) : btOk m st (.ref p) = true := by simp only [btOk, h]; exact hm
theorem bt_dic {p : Nat} {kvs : List (MV × MV)} (h : st[p]? = some (.dic false kvs)) : btOk .get st (.ref p) = true := by simp only [btOk, h]
theorem isN_non {Q : Bool → Sto → Prop} (q : Q true st) : opCmp .isN .non .non st Q := ⟨rfl, q⟩
instance {Q : Bool → Sto → Prop} : Wp (opCmp .isN .non .non st Q) (Q true st) := ⟨isN_non⟩
theorem notN_non {Q : Bool → Sto → Prop} (q : Q false st) : opCmp .notN .non .non st Q := ⟨rfl, q⟩
instance {Q : Bool → Sto → Prop} : Wp (opCmp .notN .non .non st Q) (Q false st) := ⟨notN_non⟩
theorem isN_tup {xs : List MV} {Q : Bool → Sto → Prop} (q : Q false st) : opCmp .isN (.tup xs) .non st Q := ⟨rfl, q⟩
instance {xs : List MV} {Q : Bool → Sto → Prop} : Wp (opCmp .isN (.tup xs) .non st Q) (Q false st) := ⟨isN_tup⟩
theorem notN_tup {xs : List MV} {Q : Bool → Sto → Prop} (q : Q true st) : opCmp .notN (.tup xs) .non st Q := ⟨rfl, q⟩
instance {xs : List MV} {Q : Bool → Sto → Prop} : Wp (opCmp .notN (.tup xs) .non st Q) (Q true st) := ⟨notN_tup⟩
theorem w_for {tg : ITg} {it : II} {b : List IS} {D : Ends} (h : wpI P F it σ st (fun J st1 fin =>
      loop J.ok (fun x σ1 st2 k => setTg tg x σ1 fun σ2 => wpSs P F b { nx := k, ct := k, bk := fun σ' st' => fin st' fun st'' => D.nx σ' st'', rt := fun v st' => fin st' fun st'' => D.rt v st'', ex := fun c v σ' st' => Plain it = true ∧ D.ex c v σ' st' } σ2 st2) J.xs σ st1
        fun σ' st' => fin st' fun st'' => D.nx σ' st'') (fun c v st' => D.ex c v σ st')) : wpS P F (.for_ tg it b) D σ st := h
instance {tg : ITg} {it : II} {b : List IS} {D : Ends} : Wp (wpS P F (.for_ tg it b) D σ st) (wpI P F it σ st (fun J st1 fin =>
      loop J.ok (fun x σ1 st2 k => setTg tg x σ1 fun σ2 => wpSs P F b { nx := k, ct := k, bk := fun σ' st' => fin st' fun st'' => D.nx σ' st'', rt := fun v st' => fin st' fun st'' => D.rt v st'', ex := fun c v σ' st' => Plain it = true ∧ D.ex c v σ' st' } σ2 st2) J.xs σ st1
        fun σ' st' => fin st' fun st'' => D.nx σ' st'') (fun c v st' => D.ex c v σ st')) := ⟨w_for⟩
theorem w_whl {c : IE} {b : List IS} {D : Ends} (h : ∃ n, whileN (fun σ1 st1 k => wpE P F c σ1 st1 (fun x st2 => ∃ t, truth st2 x = some t ∧ k t st2) (fun c v st' => D.ex c v σ1 st')) (wpSs P F b) D n σ st) : wpS P F (.whl c b) D σ st := h
instance {c : IE} {b : List IS} {D : Ends} : Wp (wpS P F (.whl c b) D σ st) (∃ n, whileN (fun σ1 st1 k => wpE P F c σ1 st1 (fun x st2 => ∃ t, truth st2 x = some t ∧ k t st2) (fun c v st' => D.ex c v σ1 st')) (wpSs P F b) D n σ st) := ⟨w_whl⟩
theorem w_ev {e : IE} {R : It → Sto → (Sto → (Sto → Prop) → Prop) → Prop} (h : wpE P F e σ st (fun v st1 => itemsOf v st1 fun J st2 => R J st2 fun st3 k => k st3) X) : wpI P F (.ev e) σ st R X := h
instance {e : IE} {R : It → Sto → (Sto → (Sto → Prop) → Prop) → Prop} : Wp (wpI P F (.ev e) σ st R X) (wpE P F e σ st (fun v st1 => itemsOf v st1 fun J st2 => R J st2 fun st3 k => k st3) X) := ⟨w_ev⟩
theorem w_keys {e : IE} {R : It → Sto → (Sto → (Sto → Prop) → Prop) → Prop} (h : wpE P F e σ st (fun v st0 => lockAt v st0 fun a kvs st1 => R ⟨keysOf kvs, fun st' => st'[a]? = some (.dic true kvs)⟩ st1 fun st3 k => unlock a kvs st3 k) X) : wpI P F (.keys e) σ st R X := h
instance {e : IE} {R : It → Sto → (Sto → (Sto → Prop) → Prop) → Prop} : Wp (wpI P F (.keys e) σ st R X) (wpE P F e σ st (fun v st0 => lockAt v st0 fun a kvs st1 => R ⟨keysOf kvs, fun st' => st'[a]? = some (.dic true kvs)⟩ st1 fun st3 k => unlock a kvs st3 k) X) := ⟨w_keys⟩
theorem w_rng {a : IE} {R : It → Sto → (Sto → (Sto → Prop) → Prop) → Prop} (h : wpE P F a σ st (fun v st1 => ∃ n : Int, v = .int n ∧ -1000000 ≤ n ∧ n ≤ 1000000 ∧ R ⟨(List.range n.toNat).map fun (i : Nat) => .int (i : Int), fun _ => True⟩ st1 fun st3 k => k st3) X) : wpI P F (.rng a) σ st R X := h
instance {a : IE} {R : It → Sto → (Sto → (Sto → Prop) → Prop) → Prop} : Wp (wpI P F (.rng a) σ st R X) (wpE P F a σ st (fun v st1 => ∃ n : Int, v = .int n ∧ -1000000 ≤ n ∧ n ≤ 1000000 ∧ R ⟨(List.range n.toNat).map fun (i : Nat) => .int (i : Int), fun _ => True⟩ st1 fun st3 k => k st3) X) := ⟨w_rng⟩
theorem w_os {e : IE} {Q : Option Int → Sto → Prop} (h : wpE P F e σ st (fun v st1 => ∃ i, v = .int i ∧ Q (some i) st1) X) : wpO P F (.som e) σ st Q X := h
instance {e : IE} {Q : Option Int → Sto → Prop} : Wp (wpO P F (.som e) σ st Q X) (wpE P F e σ st (fun v st1 => ∃ i, v = .int i ∧ Q (some i) st1) X) := ⟨w_os⟩
theorem w_ov {Q : Option Int → Sto → Prop} (q : Q none st) : wpO P F .non σ st Q X := q
instance {Q : Option Int → Sto → Prop} : Wp (wpO P F .non σ st Q X) (Q none st) := ⟨w_ov⟩
theorem it_tup {xs : List MV} {R : It → Sto → Prop} (h : R ⟨xs, fun _ => True⟩ st) : itemsOf (.tup xs) st R := h
instance {xs : List MV} {R : It → Sto → Prop} : Wp (itemsOf (.tup xs) st R) (R ⟨xs, fun _ => True⟩ st) := ⟨it_tup⟩
theorem it_lst {p : Nat} {xs : List MV} {R : It → Sto → Prop} (hp : st[p]? = some (.lst xs)) (h : R ⟨xs, fun st' => st'[p]? = some (.lst xs)⟩ st) : itemsOf (.ref p) st R := by simp only [itemsOf, hp]; exact h
theorem w_lc {elt : IE} {tg : ITg} {it : II} {cond : IO} {own : List Nat} (h : wpI P F it σ st (fun J st1 fin => J.xs.length < big ∧
      loop J.ok (fun x acc st2 k => setTg tg x (wipeE σ own) fun σ2 => wpO' P F cond σ2 st2 (fun t st3 => if t then wpE P F elt σ2 st3 (fun y st4 => k (acc ++ [y]) st4) (fun _ _ _ => False) else k acc st3)) J.xs [] st1
        fun acc st5 => fin st5 fun st6 => Q (.ref st6.length) (st6 ++ [.lst acc])) X) : wpE P F (.lc elt tg it cond own) σ st Q X := h
end
theorem ix_nat {n i : Nat} (h : i < n) : ixOf n (i : Int) = some i := by
  unfold ixOf
  rw [if_pos (Int.natCast_nonneg i), if_pos (by omega)]
  simp
theorem ix_neg {n : Nat} (h : 0 < n) : ixOf n (-1) = some (n - 1) := by
  unfold ixOf
  rw [if_neg (by decide), if_pos (by omega)]
  congr 1
  omega
theorem at_first {x : MV} {r : List MV} : (ixOf (x :: r).length 0).bind ((x :: r)[·]?) = some x := by
  rw [show (0 : Int) = ((0 : Nat) : Int) from rfl, ix_nat (by simp)]
  rfl
theorem at_last {xs : List MV} {x : MV} : (ixOf (xs ++ [x]).length (-1)).bind ((xs ++ [x])[·]?) = some x := by
  rw [ix_neg (by simp)]
  simp
theorem if_yes {c : Bool} {A B : Prop} (h : c = true) (q : A) : if c = true then A else B := by rw [if_pos h]; exact q
theorem if_no {c : Bool} {A B : Prop} (h : c = false) (q : B) : if c = true then A else B := by rw [h]; exact q
/-- one call of a def -/
theorem sem_go {P : Prog} {k : Nat} {q : String} {d : IDef} {vs : List MV} {st : Sto} {Q : Post} {X : Xp} (hk : 1 ≤ k) (hd : P.df q = some d) (hl : vs.length = d.np)
    (h : wpSs P (sem P (k - 1)) d.body ⟨fun _ st' => Q .non st', Q, fun _ _ => False, fun _ _ => False, fun c v _ st' => X c v st'⟩ (vs.map some ++ List.replicate (d.ns - d.np) none) st) : sem P k q vs st Q X := by
  obtain ⟨j, rfl⟩ : ∃ j, k = j + 1 := ⟨k - 1, by omega⟩
  exact ⟨d, hd, hl, h⟩
/-- a dict of texts -/
theorem kLook_str {α : Type} (f : α → MV) (p : Tx) : ∀ l : List (Tx × α), kLook (.str p) (l.map fun e => (.str e.1, f e.2)) = (l.lookup p).map f
  | [] => rfl
  | (a, v) :: r => by
    show (if keyEq (.str a) (.str p) = true then some (f v) else kLook (.str p) (r.map fun e => (.str e.1, f e.2))) = _
    have e0 : keyEq (.str a) (.str p) = (a == p) := rfl
    rw [kLook_str f p r, List.lookup_cons]
    by_cases e : a = p
    · subst e
      rw [if_pos (by rw [e0]; simp)]
      simp
    · have e1 : (a == p) = false := by simp [e]
      have e2 : (p == a) = false := by simp [Ne.symm e]
      rw [if_neg (by rw [e0, e1]; exact Bool.false_ne_true), e2]
end Mi
-- B1
namespace Mi
local macro_rules | `(tactic| decreasing_trivial_pre_omega) => `(tactic| repeat (first | (with_reducible refine Wp.go ?_) | ((with_reducible apply w_var); exact rfl) | ((with_reducible refine if_yes ?_ ?_); exact rfl) | ((with_reducible refine if_no ?_ ?_); exact rfl) | (with_reducible refine w_lc ?_) | (with_reducible refine o_mod (by omega) ?_) | (with_reducible refine o_div (by omega) (by omega) ?_)))
local macro_rules | `(tactic| array_get_dec) => `(tactic| repeat (first | (with_reducible refine Wp.go ?_) | ((with_reducible apply w_var); exact rfl) | ((with_reducible refine if_yes ?_ ?_); exact rfl) | ((with_reducible refine if_no ?_ ?_); exact rfl) | (with_reducible refine o_mod (by omega) ?_) | (with_reducible refine o_div (by omega) (by omega) ?_)))
def d_take (m1 m2 m3 m4 : Int) : IDef := ⟨2, 5, [
    .iff (.cmp .gt (.sub (.var 0) (.con (.int 0))) (.con (.int 0))) [.asg (.name 4) (.bin .mod (.blt .int (.cons (.sub (.var 0) (.con (.int 0))) .nil)) (.var 1)), .setsub (.var 0) (.con (.int 0)) (.bin .fdiv (.sub (.var 0) (.con (.int 0))) (.var 1)), .ret (.var 4)] [],
    .setsub (.var 0) (.con (.int 2)) (.bin .add (.sub (.var 0) (.con (.int 2))) (.con (.int 1))),
    .asg (.name 2) (.sub (.lst (.cons (.con (.int 2147483647)) (.cons (.con (.int 2147483629)) (.cons (.con (.int 2147483587)) (.cons (.con (.int 2147483579)) (.cons (.con (.int 2147483563)) .nil)))))) (.bin .mod (.blt .int (.cons (.sub (.var 0) (.con (.int 2))) .nil)) (.con (.int 5)))),
    .asg (.name 3) (.bin .mod (.blt .int (.cons (.bin .pow (.blt .int (.cons (.bin .add (.bin .add (.sub (.var 0) (.con (.int 1))) (.bin .mul (.bin .mul (.con (.int m1)) (.sub (.var 0) (.con (.int 2)))) (.sub (.var 0) (.con (.int 2))))) (.con (.int m2))) .nil)) (.con (.int 3))) .nil)) (.var 2)),
    .asg (.name 3) (.bin .mod (.blt .int (.cons (.bin .mul (.var 3) (.bin .add (.bin .mod (.blt .int (.cons (.var 3) .nil)) (.con (.int m3))) (.bin .mul (.con (.int m4)) (.sub (.var 0) (.con (.int 2)))))) .nil)) (.con (.int 2305843009213693907))),
    .ret (.bin .mod (.blt .int (.cons (.bin .fdiv (.var 3) (.con (.int 139))) .nil)) (.var 1))]⟩
/-- the pot: its numbers are in bounds -/
def PotOk (a b c : Int) : Prop := 0 ≤ a ∧ 0 ≤ b ∧ b < 2305843009213693951 ∧ 0 ≤ c ∧ c < 1000000
theorem pow3 {x : Int} (h : x.natAbs < 2 ^ 100) : x.natAbs < 2 ^ 5000 := Nat.lt_of_lt_of_le h (Nat.pow_le_pow_right (by decide) (by decide))
theorem nA {x : Int} {n : Nat} (h0 : 0 ≤ x) (h : x < (n : Int)) : x.natAbs < n := by omega
theorem mul_b {a b : Int} {A B : Int} (h0 : 0 ≤ a) (h1 : a < A) (h2 : 0 ≤ b) (h3 : b < B) : 0 ≤ a * b ∧ a * b < A * B := by
  refine ⟨Int.mul_nonneg h0 h2, ?_⟩
  have hA : 0 < A := by omega
  exact Int.lt_of_le_of_lt (Int.mul_le_mul_of_nonneg_right (Int.le_of_lt h1) h2) (Int.mul_lt_mul_of_pos_left h3 hA)
theorem take_spec {P : Prog} {m1 m2 m3 m4 : Int} (hm : 0 ≤ m1 ∧ m1 < 1000000 ∧ 0 ≤ m2 ∧ m2 < 1000000 ∧ 0 < m3 ∧ m3 < 1000000 ∧ 0 ≤ m4 ∧ m4 < 1000000) {nm : String} (hP : P.df nm = some (d_take m1 m2 m3 m4)) {k : Nat} (hk : 1 ≤ k) {p : Nat} {a b c n : Int} {st : Sto} {Q : Post} {X : Xp} (hp : st[p]? = some (.lst [.int a, .int b, .int c])) (ok : PotOk a b c) (hn : 0 < n) (hn2 : n < 100000)
    (q : ∀ d a' c' st', 0 ≤ d → d < n → 0 ≤ a' → a' ≤ a → c ≤ c' → c' ≤ c + 1 → (∃ t, st' = (st ++ t).set p (.lst [.int a', .int b, .int c'])) → Q (.int d) st') : sem P k nm [.ref p, .int n] st Q X := by
  obtain ⟨k, rfl⟩ : ∃ j, k = j + 1 := ⟨k - 1, by omega⟩
  obtain ⟨o1, o2, o3, o4, o5⟩ := ok
  obtain ⟨n1, n2, n3, n4, n5, n6, n7, n8⟩ := hm
  refine ⟨_, hP, rfl, ?_⟩
  show wpSs P _ [_, _, _, _, _, _] _ [some (.ref p), some (.int n), none, none, none] st
  decreasing_trivial_pre_omega
  refine g_lst hp (by rfl) ?_
  decreasing_trivial_pre_omega
  by_cases ha : 0 < a
  · rw [decide_eq_true ha]
    rw [if_pos rfl]
    decreasing_trivial_pre_omega
    refine g_lst hp (by rfl) ?_
    decreasing_trivial_pre_omega
    refine g_lst hp (by rfl) ?_
    decreasing_trivial_pre_omega
    refine s_lst hp (by rfl) ?_
    decreasing_trivial_pre_omega
    refine q (a % n) (a / n) c _ (Int.emod_nonneg _ (by omega)) (Int.emod_lt_of_pos _ hn) (Int.ediv_nonneg o1 (by omega)) (Int.ediv_le_self _ o1) (Int.le_refl _) (by omega) ⟨[], by simp⟩
  · rw [decide_eq_false ha]
    rw [if_neg Bool.false_ne_true]
    decreasing_trivial_pre_omega
    refine g_lst hp (by rfl) ?_
    decreasing_trivial_pre_omega
    refine s_lst hp (by rfl) ?_
    have hp2 : (st.set p (.lst [.int a, .int b, .int (c + 1)]))[p]? = some (.lst [.int a, .int b, .int (c + 1)]) := get_set hp
    have hl : (st.set p (.lst [.int a, .int b, .int (c + 1)])).length = st.length := List.length_set
    generalize hS : st.set p (.lst ([MV.int a, MV.int b, MV.int c].set (Int.toNat 2) (.int (c + 1)))) = S
    have hp3 : S[p]? = some (.lst [.int a, .int b, .int (c + 1)]) := by rw [← hS]; exact hp2
    decreasing_trivial_pre_omega
    refine ⟨by decide, ?_⟩
    have hp4 : ∀ t : Sto, (S ++ t)[p]? = some (.lst [.int a, .int b, .int (c + 1)]) := fun t => get_app hp3
    decreasing_trivial_pre_omega
    refine g_lst (hp4 _) (by rfl) ?_
    decreasing_trivial_pre_omega
    have h5 : 0 ≤ (c + 1) % 5 ∧ (c + 1) % 5 < 5 := ⟨Int.emod_nonneg _ (by decide), Int.emod_lt_of_pos _ (by decide)⟩
    obtain ⟨pr, hpr, hpv, hpv2⟩ : ∃ pr : Int, (ixOf [MV.int 2147483647, MV.int 2147483629, MV.int 2147483587, MV.int 2147483579, MV.int 2147483563].length ((c + 1) % 5)).bind ([MV.int 2147483647, MV.int 2147483629, MV.int 2147483587, MV.int 2147483579, MV.int 2147483563][·]?) = some (.int pr) ∧ 0 < pr ∧ pr < 2147483648 := by
      obtain h | h | h | h | h : (c + 1) % 5 = 0 ∨ (c + 1) % 5 = 1 ∨ (c + 1) % 5 = 2 ∨ (c + 1) % 5 = 3 ∨ (c + 1) % 5 = 4 := by omega
      all_goals (rw [h]; exact ⟨_, rfl, by decide, by decide⟩)
    refine g_lst get_new hpr ?_
    decreasing_trivial_pre_omega
    refine g_lst (hp4 _) (by rfl) ?_
    decreasing_trivial_pre_omega
    refine g_lst (hp4 _) (by rfl) ?_
    decreasing_trivial_pre_omega
    have hc1 : 0 ≤ c + 1 ∧ c + 1 < 1000001 := ⟨by omega, by omega⟩
    refine o_mul (.inr (nA hc1.1 (by omega))) ?_
    obtain ⟨x1, x2⟩ := mul_b n1 n2 hc1.1 hc1.2
    decreasing_trivial_pre_omega
    refine g_lst (hp4 _) (by rfl) ?_
    decreasing_trivial_pre_omega
    refine o_mul (.inr (nA hc1.1 (by omega))) ?_
    obtain ⟨x3, x4⟩ := mul_b x1 x2 hc1.1 hc1.2
    decreasing_trivial_pre_omega
    generalize hB : b + m1 * (c + 1) * (c + 1) + m2 = B
    have hB0 : 0 ≤ B := by omega
    have hB1 : B < 2305843009213693951 + 1000000 * 1000001 * 1000001 + 1000000 := by omega
    refine o_pow (by decide) (by decide) (pow3 (nA hB0 (by omega))) ?_
    decreasing_trivial_pre_omega
    generalize hE : B ^ (3 : Int).toNat % pr = E
    have hE0 : 0 ≤ E := by rw [← hE]; exact Int.emod_nonneg _ (by omega)
    have hE1 : E < pr := by rw [← hE]; exact Int.emod_lt_of_pos _ hpv
    refine g_lst (hp4 _) (by rfl) ?_
    decreasing_trivial_pre_omega
    refine o_mul (.inr (nA hc1.1 (by omega))) ?_
    obtain ⟨y1, y2⟩ := mul_b n7 n8 hc1.1 hc1.2
    decreasing_trivial_pre_omega
    refine o_mul (.inl (nA hE0 (by omega))) ?_
    decreasing_trivial_pre_omega
    refine q _ a (c + 1) _ (Int.emod_nonneg _ (by omega)) (Int.emod_lt_of_pos _ hn) o1 (Int.le_refl _) (by omega) (Int.le_refl _) ⟨[.lst [.int 2147483647, .int 2147483629, .int 2147483587, .int 2147483579, .int 2147483563]], ?_⟩
    rw [List.set_append_left _ _ (List.getElem?_eq_some_iff.mp hp).1, ← hS]
    rfl
/-! ### what stays -/
/-- all that stood stays, but for W -/
structure Keep (W : List Nat) (st st' : Sto) : Prop where
  le : st.length ≤ st'.length
  at_ : ∀ b o, b ∉ W → st[b]? = some o → st'[b]? = some o
theorem Keep.refl (W : List Nat) (st : Sto) : Keep W st st := ⟨Nat.le_refl _, fun _ _ _ h => h⟩
theorem Keep.trans {W : List Nat} {a b c : Sto} (x : Keep W a b) (y : Keep W b c) : Keep W a c := ⟨Nat.le_trans x.le y.le, fun i o n h => y.at_ i o n (x.at_ i o n h)⟩
theorem Keep.mono {W V : List Nat} {a b : Sto} (x : Keep W a b) (h : ∀ i ∈ W, i ∈ V) : Keep V a b := ⟨x.le, fun i o n q => x.at_ i o (fun z => n (h i z)) q⟩
theorem Keep.app (W : List Nat) (st t : Sto) : Keep W st (st ++ t) := ⟨by simp, fun _ _ _ h => get_app h⟩
theorem Keep.set {W : List Nat} {st : Sto} {p : Nat} (o : MO) (h : p ∈ W) : Keep W st (st.set p o) := ⟨by simp, fun b _ n q => get_other (fun z => n (z ▸ h)) q⟩
/-- a write to what is new -/
theorem Keep.new {W : List Nat} {st0 st : Sto} {p : Nat} (o : MO) (x : Keep W st0 st) (h : st0.length ≤ p) : Keep W st0 (st.set p o) :=
  ⟨by simpa using x.le, fun b _ n q => get_other (fun z => by have := (List.getElem?_eq_some_iff.mp q).1; omega) (x.at_ b _ n q)⟩
/-- a pot with m draws left at least -/
def Pot (m : Nat) (st : Sto) (p : Nat) : Prop := ∃ a b c : Int, st[p]? = some (.lst [.int a, .int b, .int c]) ∧ 0 ≤ a ∧ 0 ≤ b ∧ b < 2305843009213693951 ∧ 0 ≤ c ∧ c + m < 1000000
theorem Pot.keep {m : Nat} {st st' : Sto} {p : Nat} {W : List Nat} (h : Pot m st p) (k : Keep W st st') (n : p ∉ W) : Pot m st' p := by
  obtain ⟨a, b, c, e, r⟩ := h
  exact ⟨a, b, c, k.at_ _ _ n e, r⟩
theorem Pot.less {m j : Nat} {st : Sto} {p : Nat} (h : Pot m st p) (l : j ≤ m) : Pot j st p := by
  obtain ⟨a, b, c, e, r1, r2, r3, r4, r5⟩ := h
  exact ⟨a, b, c, e, r1, r2, r3, r4, by omega⟩
theorem take_ok {P : Prog} {m1 m2 m3 m4 : Int} (hm : 0 ≤ m1 ∧ m1 < 1000000 ∧ 0 ≤ m2 ∧ m2 < 1000000 ∧ 0 < m3 ∧ m3 < 1000000 ∧ 0 ≤ m4 ∧ m4 < 1000000) {nm : String} (hP : P.df nm = some (d_take m1 m2 m3 m4)) {k : Nat} (hk : 1 ≤ k) {p m : Nat} {n : Int} {st : Sto} {Q : Post} {X : Xp}
    (hp : Pot (m + 1) st p) (hn : 0 < n) (hn2 : n < 100000) (q : ∀ d st', 0 ≤ d → d < n → Pot m st' p → Keep [p] st st' → Q (.int d) st') : sem P k nm [.ref p, .int n] st Q X := by
  obtain ⟨a, b, c, e, r1, r2, r3, r4, r5⟩ := hp
  refine take_spec hm hP hk e ⟨r1, r2, r3, r4, by omega⟩ hn hn2 fun d a' c' st' d0 d1 ha0 ha1 hc0 hc1 ⟨t, hs⟩ => q d st' d0 d1 ⟨a', b, c', ?_, ha0, r2, r3, by omega, by omega⟩ ?_
  · rw [hs]; exact get_set (get_app e)
  · rw [hs]
    exact (Keep.app [p] st t).trans (Keep.set _ (by simp))
end Mi
-- Q1
namespace Mi
def kinds : List String := ["BadBox", "Uneven", "NoPlace", "BadStep", "NoStep", "BadRecord", "BadStanding", "BadMove", "OtherLines", "Wide", "Heavy", "TooMany", "BadNet", "NoPart", "BadGiven", "BadMoves", "BadInputs", "Chooses", "BadNumber", "BadWish", "BadOffers", "BadBoxes", "BadSeen", "NoBox", "NoLine", "BadWorth", "NotNow", "NotFirst", "NothingToUndo", "NothingToRedo", "NoTrial", "BadJournal", "BadLine"]
def d_is_kept0 : IDef := ⟨1, 5, [
    .for_ (.tup [2, 3]) (.enu (.call "_law_made" (.cons (.var 0) .nil))) [.iff (.or (.cmp .ne (.call "_law_marked" (.cons (.var 3) .nil)) (.lc (.cmp .eq (.var 4) (.var 2)) (.name 4) (.rng (.con (.int 33))) .non [4])) (.cmp .ne (.blt .repr (.cons (.fld (.var 3) "value") .nil)) (.blt .repr (.cons (.var 0) .nil)))) [.ret (.con (.bl false))] [], .iff (.or (.not (.isx (.var 3) "BoxError")) (.not (.isv (.var 3)))) [.ret (.con (.bl false))] []],
    .asg (.name 1) (.mkx "BoxError" (.var 0)),
    .iff (.or (.cmp .ne (.blt .repr (.cons (.fld (.var 1) "value") .nil)) (.blt .repr (.cons (.var 0) .nil))) (.or (.cmp .inn (.con (.bl true)) (.call "_law_marked" (.cons (.var 1) .nil))) (.not (.isv (.var 1))))) [.ret (.con (.bl false))] [],
    .ret (.cmp .nin (.con (.bl true)) (.call "_law_marked" (.cons (.mkb (.var 0)) .nil)))]⟩
def d_made0 : IDef := ⟨1, 2, [
    .asg (.name 1) (.lst (.cons (.mkx "BadBox" (.var 0)) (.cons (.mkx "Uneven" (.var 0)) (.cons (.mkx "NoPlace" (.var 0)) (.cons (.mkx "BadStep" (.var 0)) .nil))))),
    .expr (.bmt (.var 1) .extend (.cons (.lst (.cons (.mkx "NoStep" (.var 0)) (.cons (.mkx "BadRecord" (.var 0)) (.cons (.mkx "BadStanding" (.var 0)) (.cons (.mkx "BadMove" (.var 0)) .nil))))) .nil)),
    .expr (.bmt (.var 1) .extend (.cons (.lst (.cons (.mkx "OtherLines" (.var 0)) (.cons (.mkx "Wide" (.var 0)) (.cons (.mkx "Heavy" (.var 0)) (.cons (.mkx "TooMany" (.var 0)) .nil))))) .nil)),
    .expr (.bmt (.var 1) .extend (.cons (.lst (.cons (.mkx "BadNet" (.var 0)) (.cons (.mkx "NoPart" (.var 0)) (.cons (.mkx "BadGiven" (.var 0)) (.cons (.mkx "BadMoves" (.var 0)) .nil))))) .nil)),
    .expr (.bmt (.var 1) .extend (.cons (.lst (.cons (.mkx "BadInputs" (.var 0)) (.cons (.mkx "Chooses" (.var 0)) (.cons (.mkx "BadNumber" (.var 0)) (.cons (.mkx "BadWish" (.var 0)) .nil))))) .nil)),
    .expr (.bmt (.var 1) .extend (.cons (.lst (.cons (.mkx "BadOffers" (.var 0)) (.cons (.mkx "BadBoxes" (.var 0)) (.cons (.mkx "BadSeen" (.var 0)) (.cons (.mkx "NoBox" (.var 0)) .nil))))) .nil)),
    .expr (.bmt (.var 1) .extend (.cons (.lst (.cons (.mkx "NoLine" (.var 0)) (.cons (.mkx "BadWorth" (.var 0)) (.cons (.mkx "NotNow" (.var 0)) (.cons (.mkx "NotFirst" (.var 0)) .nil))))) .nil)),
    .expr (.bmt (.var 1) .extend (.cons (.lst (.cons (.mkx "NothingToUndo" (.var 0)) (.cons (.mkx "NothingToRedo" (.var 0)) (.cons (.mkx "NoTrial" (.var 0)) (.cons (.mkx "BadJournal" (.var 0)) .nil))))) .nil)),
    .expr (.bmt (.var 1) .extend (.cons (.lst (.cons (.mkx "BadLine" (.var 0)) .nil)) .nil)),
    .ret (.var 1)]⟩
def d_marked0 : IDef := ⟨1, 2, [
    .asg (.name 1) (.lst (.cons (.isx (.var 0) "BadBox") (.cons (.isx (.var 0) "Uneven") (.cons (.isx (.var 0) "NoPlace") .nil)))),
    .expr (.bmt (.var 1) .extend (.cons (.lst (.cons (.isx (.var 0) "BadStep") (.cons (.isx (.var 0) "NoStep") (.cons (.isx (.var 0) "BadRecord") .nil)))) .nil)),
    .expr (.bmt (.var 1) .extend (.cons (.lst (.cons (.isx (.var 0) "BadStanding") (.cons (.isx (.var 0) "BadMove") (.cons (.isx (.var 0) "OtherLines") .nil)))) .nil)),
    .expr (.bmt (.var 1) .extend (.cons (.lst (.cons (.isx (.var 0) "Wide") (.cons (.isx (.var 0) "Heavy") (.cons (.isx (.var 0) "TooMany") .nil)))) .nil)),
    .expr (.bmt (.var 1) .extend (.cons (.lst (.cons (.isx (.var 0) "BadNet") (.cons (.isx (.var 0) "NoPart") (.cons (.isx (.var 0) "BadGiven") .nil)))) .nil)),
    .expr (.bmt (.var 1) .extend (.cons (.lst (.cons (.isx (.var 0) "BadMoves") (.cons (.isx (.var 0) "BadInputs") (.cons (.isx (.var 0) "Chooses") .nil)))) .nil)),
    .expr (.bmt (.var 1) .extend (.cons (.lst (.cons (.isx (.var 0) "BadNumber") (.cons (.isx (.var 0) "BadWish") (.cons (.isx (.var 0) "BadOffers") .nil)))) .nil)),
    .expr (.bmt (.var 1) .extend (.cons (.lst (.cons (.isx (.var 0) "BadBoxes") (.cons (.isx (.var 0) "BadSeen") (.cons (.isx (.var 0) "NoBox") .nil)))) .nil)),
    .expr (.bmt (.var 1) .extend (.cons (.lst (.cons (.isx (.var 0) "NoLine") (.cons (.isx (.var 0) "BadWorth") (.cons (.isx (.var 0) "NotNow") .nil)))) .nil)),
    .expr (.bmt (.var 1) .extend (.cons (.lst (.cons (.isx (.var 0) "NotFirst") (.cons (.isx (.var 0) "NothingToUndo") (.cons (.isx (.var 0) "NothingToRedo") .nil)))) .nil)),
    .expr (.bmt (.var 1) .extend (.cons (.lst (.cons (.isx (.var 0) "NoTrial") (.cons (.isx (.var 0) "BadJournal") (.cons (.isx (.var 0) "BadLine") .nil)))) .nil)),
    .ret (.var 1)]⟩
def d_law0 : IDef := ⟨1, 4, [
    .asg (.name 1) (.bin .mod (.blt .int (.cons (.ite (.cmp .ne (.var 0) (.lst .nil)) (.sub (.var 0) (.con (.int 0))) (.con (.int 0))) .nil)) (.bin .pow (.con (.int 10)) (.con (.int 9)))),
    .asg (.name 2) (.lst (.cons (.con .non) (.cons (.var 1) (.cons (.neg (.var 1)) (.cons (.con (.bl true)) (.cons (.bin .add (.con (.str [116, 101, 120, 116, 32])) (.blt .str (.cons (.var 1) .nil))) (.cons (.tup (.cons (.var 1) (.cons (.con (.str [97])) .nil))) (.cons (.lst (.cons (.var 1) .nil)) (.cons (.dic (.cons (.con (.str [97])) (.var 1) .nil)) (.cons (.tup .nil) (.cons (.tup (.cons (.tup (.cons (.var 1) (.cons (.con .non) .nil))) (.cons (.lst .nil) .nil))) .nil))))))))))),
    .ret (.blt .all (.cons (.lc (.call "_law_is_kept" (.cons (.var 3) .nil)) (.name 3) (.ev (.var 2)) .non [3]) .nil))]⟩
/-- an exception, and of which kinds it is -/
def Xc (P : Prog) (st : Sto) (x : MV) (f : String → Bool) : Prop := (∃ n c v, x = .ref n ∧ st[n]? = some (.exc c v) ∧ f = P.xs c) ∨ (∃ n, x = .ref n ∧ st[n]? = some .bex ∧ f = fun _ => false)
theorem Xc.keep {P : Prog} {st st' : Sto} {x : MV} {f : String → Bool} (h : Xc P st x f) (k : Keep [] st st') : Xc P st' x f := by
  rcases h with ⟨n, c, v, h1, h2, h3⟩ | ⟨n, h1, h2, h3⟩
  · exact .inl ⟨n, c, v, h1, k.at_ _ _ (by simp) h2, h3⟩
  · exact .inr ⟨n, h1, k.at_ _ _ (by simp) h2, h3⟩
theorem Xc.is {P : Prog} {st : Sto} {x : MV} {f : String → Bool} (h : Xc P st x f) {Q : Post} {d : String} (q : Q (.bl (f d)) st) : (noXc st x ∧ Q (.bl false) st) ∨ ∃ n c' v, x = .ref n ∧ st[n]? = some (.exc c' v) ∧ Q (.bl (P.xs c' d)) st := by
  rcases h with ⟨n, c, v, h1, h2, h3⟩ | ⟨n, h1, h2, h3⟩
  · subst h3
    exact .inr ⟨n, c, v, h1, h2, q⟩
  · subst h3
    exact .inl ⟨.inr ⟨n, h1, h2⟩, q⟩
theorem Xc.any {P : Prog} {st : Sto} {x : MV} {f : String → Bool} (h : Xc P st x f) : anyXc st x := by
  rcases h with ⟨n, c, v, h1, h2, h3⟩ | ⟨n, h1, h2, h3⟩
  · exact ⟨n, h1, .inl ⟨c, v, h2⟩⟩
  · exact ⟨n, h1, .inr h2⟩
theorem w_isk {P : Prog} {F : Phi} {σ : Env} {st : Sto} {Q : Post} {X : Xp} {i : Nat} {c : String} {x : MV} {f : String → Bool} (hv : σ[i]? = some (some x)) (h : Xc P st x f) (q : Q (.bl (f c)) st) : wpE P F (.isx (.var i) c) σ st Q X :=
  ⟨x, hv, Xc.is (Q := Q) h q⟩
theorem m_ext0 {p b : Nat} {xs ys : List MV} {st : Sto} {Q : Post} (h : st[p]? = some (.lst xs)) (hb : st[b]? = some (.lst ys)) (hl : xs.length + ys.length ≤ big) (q : Q .non (st.set p (.lst (xs ++ ys)))) : opBmt .extend (.ref p) [.ref b] st Q := ⟨p, xs, b, ys, rfl, h, rfl, hb, hl, q⟩
/-- three kinds more -/
theorem mark3 {P : Prog} {F : Phi} {st0 st : Sto} {x : MV} {f : String → Bool} (h : Xc P st0 x f) {p : Nat} {xs : List MV} (hp : st[p]? = some (.lst xs)) (k : Keep [] st0 st) (ge : st0.length ≤ p) (hl : xs.length ≤ 40) {a b c : String} {D : Ends}
    (q : ∀ st', st'[p]? = some (.lst (xs ++ [.bl (f a), .bl (f b), .bl (f c)])) → Keep [] st0 st' → D.nx [some x, some (.ref p)] st') :
    wpS P F (.expr (.bmt (.var 1) .extend (.cons (.lst (.cons (.isx (.var 0) a) (.cons (.isx (.var 0) b) (.cons (.isx (.var 0) c) .nil)))) .nil))) D [some x, some (.ref p)] st := by
  have h1 := h.keep k
  refine w_expr (w_bmt (w_var rfl ⟨bt_lst hp rfl, ?_⟩))
  refine w_arg (w_lst (w_arg (w_isk rfl h1 ?_)))
  refine w_arg (w_isk rfl h1 ?_)
  refine w_arg (w_isk rfl h1 ?_)
  refine w_nil ⟨by simp [big], w_nil ?_⟩
  refine m_ext0 (get_app hp) get_new (by simp [big]; omega) ?_
  exact q _ (get_set (get_app hp)) ((k.trans (Keep.app [] _ _)).new _ ge)
/-- four errors more -/
def FourAt (st : Sto) (v : MV) (ns : List Nat) (cs : List String) : Prop := ns.length = cs.length ∧ ∀ (i : Nat) n c, ns[i]? = some n → cs[i]? = some c → st[n]? = some (.exc c v)
theorem FourAt.keep {st st' : Sto} {v : MV} {ns : List Nat} {cs : List String} (h : FourAt st v ns cs) (k : ∀ (n : Nat) c, n ∈ ns → st[n]? = some (.exc c v) → st'[n]? = some (.exc c v)) : FourAt st' v ns cs := ⟨h.1, fun i n c h1 h2 => k n c (List.mem_of_getElem? h1) (h.2 i n c h1 h2)⟩
theorem FourAt.app {st : Sto} {v : MV} {ns ms : List Nat} {cs ds : List String} (h : FourAt st v ns cs) (h2 : FourAt st v ms ds) : FourAt st v (ns ++ ms) (cs ++ ds) := by
  refine ⟨by simp [h.1, h2.1], fun i n c g1 g2 => ?_⟩
  by_cases hi : i < ns.length
  · rw [List.getElem?_append_left hi] at g1
    rw [List.getElem?_append_left (by rw [← h.1]; exact hi)] at g2
    exact h.2 i n c g1 g2
  · rw [List.getElem?_append_right (by omega)] at g1
    rw [List.getElem?_append_right (by rw [← h.1]; omega), ← h.1] at g2
    exact h2.2 _ n c g1 g2
theorem four_new {st t : Sto} {v : MV} {a b c d : String} : FourAt (st ++ [MO.exc a v] ++ [MO.exc b v] ++ [MO.exc c v] ++ [MO.exc d v] ++ t) v [st.length, st.length + 1, st.length + 2, st.length + 3] [a, b, c, d] := by
  refine ⟨rfl, fun i n e h1 h2 => ?_⟩
  match i, h1, h2 with
  | 0, h1, h2 => simp at h1 h2; subst h1 h2; simp
  | 1, h1, h2 => simp at h1 h2; subst h1 h2; simp [List.getElem?_append]
  | 2, h1, h2 => simp at h1 h2; subst h1 h2; simp [List.getElem?_append]
  | 3, h1, h2 => simp at h1 h2; subst h1 h2; simp [List.getElem?_append]
  | i + 4, h1, h2 => simp at h1
theorem make4 {P : Prog} {F : Phi} {st0 st : Sto} {v : MV} {p : Nat} {ns : List Nat} {cs : List String} (hp : st[p]? = some (.lst (ns.map .ref))) (hf : FourAt st v ns cs) (k : Keep [] st0 st) (ge : st0.length ≤ p) (hl : ns.length ≤ 40) {a b c d : String} {D : Ends}
    (q : ∀ ns' st', st'[p]? = some (.lst (ns'.map .ref)) → FourAt st' v ns' (cs ++ [a, b, c, d]) → Keep [] st0 st' → D.nx [some v, some (.ref p)] st') :
    wpS P F (.expr (.bmt (.var 1) .extend (.cons (.lst (.cons (.mkx a (.var 0)) (.cons (.mkx b (.var 0)) (.cons (.mkx c (.var 0)) (.cons (.mkx d (.var 0)) .nil))))) .nil))) D [some v, some (.ref p)] st := by
  refine w_expr (w_bmt (w_var rfl ⟨bt_lst hp rfl, ?_⟩))
  refine w_arg (w_lst (w_arg (w_mkx (w_var rfl ?_))))
  refine w_arg (w_mkx (w_var rfl ?_))
  refine w_arg (w_mkx (w_var rfl ?_))
  refine w_arg (w_mkx (w_var rfl ?_))
  refine w_nil ⟨by simp [big], w_nil ?_⟩
  have k4 : Keep [] st (st ++ [MO.exc a v] ++ [MO.exc b v] ++ [MO.exc c v] ++ [MO.exc d v]) := (((Keep.app [] _ _).trans (Keep.app [] _ _)).trans (Keep.app [] _ _)).trans (Keep.app [] _ _)
  refine m_ext0 (get_app (k4.at_ _ _ (by simp) hp)) get_new (by simp [big]; omega) ?_
  have nw := four_new (st := st) (t := [MO.lst [MV.ref st.length, .ref (st ++ [MO.exc a v]).length, .ref (st ++ [MO.exc a v] ++ [MO.exc b v]).length, .ref (st ++ [MO.exc a v] ++ [MO.exc b v] ++ [MO.exc c v]).length]]) (v := v) (a := a) (b := b) (c := c) (d := d)
  have hp5 : (st ++ [MO.exc a v] ++ [MO.exc b v] ++ [MO.exc c v] ++ [MO.exc d v] ++ [MO.lst [MV.ref st.length, .ref (st ++ [MO.exc a v]).length, .ref (st ++ [MO.exc a v] ++ [MO.exc b v]).length, .ref (st ++ [MO.exc a v] ++ [MO.exc b v] ++ [MO.exc c v]).length]])[p]? = some (.lst (ns.map .ref)) := get_app (k4.at_ _ _ (by simp) hp)
  have hf5 : FourAt (st ++ [MO.exc a v] ++ [MO.exc b v] ++ [MO.exc c v] ++ [MO.exc d v] ++ [MO.lst [MV.ref st.length, .ref (st ++ [MO.exc a v]).length, .ref (st ++ [MO.exc a v] ++ [MO.exc b v]).length, .ref (st ++ [MO.exc a v] ++ [MO.exc b v] ++ [MO.exc c v]).length]]) v ns cs := hf.keep fun n e _ h => get_app (k4.at_ _ _ (by simp) h)
  have k5 := k.trans (k4.trans (Keep.app [] _ [MO.lst [MV.ref st.length, .ref (st ++ [MO.exc a v]).length, .ref (st ++ [MO.exc a v] ++ [MO.exc b v]).length, .ref (st ++ [MO.exc a v] ++ [MO.exc b v] ++ [MO.exc c v]).length]]))
  have el : [MV.ref st.length, .ref (st ++ [MO.exc a v]).length, .ref (st ++ [MO.exc a v] ++ [MO.exc b v]).length, .ref (st ++ [MO.exc a v] ++ [MO.exc b v] ++ [MO.exc c v]).length] = [st.length, st.length + 1, st.length + 2, st.length + 3].map MV.ref := by simp
  have eb : ns.map MV.ref ++ [MV.ref st.length, .ref (st ++ [MO.exc a v]).length, .ref (st ++ [MO.exc a v] ++ [MO.exc b v]).length, .ref (st ++ [MO.exc a v] ++ [MO.exc b v] ++ [MO.exc c v]).length] = (ns ++ [st.length, st.length + 1, st.length + 2, st.length + 3]).map MV.ref := by rw [el, List.map_append]
  refine q (ns ++ [st.length, st.length + 1, st.length + 2, st.length + 3]) _ (by rw [← eb]; exact get_set hp5) ((hf5.app nw).keep fun n e _ h => ?_) (k5.new _ ge)
  by_cases z : p = n
  · subst z
    rw [hp5] at h
    cases h
  · exact get_other z h
end Mi
-- Q2
namespace Mi
section
variable {P : Prog} {k : Nat} {st : Sto} {Q : Post} {X : Xp}
theorem marked_ok (hP : P.df "_law_marked" = some d_marked0) (hk : 1 ≤ k) {x : MV} {f : String → Bool} (h : Xc P st x f) (q : ∀ p st', Keep [] st st' → st'[p]? = some (.lst (kinds.map fun d => .bl (f d))) → Q (.ref p) st') : sem P k "_law_marked" [x] st Q X := by
  refine sem_go hk hP rfl ?_
  show wpSs P _ [_, _, _, _, _, _, _, _, _, _, _, _] _ [some x, none] st
  refine w_seq (w_set (w_lst (w_arg (w_isk rfl h ?_))))
  refine w_arg (w_isk rfl h ?_)
  refine w_arg (w_isk rfl h ?_)
  refine w_nil ⟨by simp [big], ?_⟩
  have k1 : Keep [] st (st ++ [MO.lst [.bl (f "BadBox"), .bl (f "Uneven"), .bl (f "NoPlace")]]) := Keep.app _ _ _
  have hp1 : (st ++ [MO.lst [.bl (f "BadBox"), .bl (f "Uneven"), .bl (f "NoPlace")]])[st.length]? = some (.lst [.bl (f "BadBox"), .bl (f "Uneven"), .bl (f "NoPlace")]) := get_new
  generalize st ++ [MO.lst [.bl (f "BadBox"), .bl (f "Uneven"), .bl (f "NoPlace")]] = st1 at *
  refine w_seq (mark3 h hp1 k1 (Nat.le_refl _) (by simp) fun st2 hp2 k2 => ?_)
  refine w_seq (mark3 h hp2 k2 (Nat.le_refl _) (by simp) fun st3 hp3 k3 => ?_)
  refine w_seq (mark3 h hp3 k3 (Nat.le_refl _) (by simp) fun st4 hp4 k4 => ?_)
  refine w_seq (mark3 h hp4 k4 (Nat.le_refl _) (by simp) fun st5 hp5 k5 => ?_)
  refine w_seq (mark3 h hp5 k5 (Nat.le_refl _) (by simp) fun st6 hp6 k6 => ?_)
  refine w_seq (mark3 h hp6 k6 (Nat.le_refl _) (by simp) fun st7 hp7 k7 => ?_)
  refine w_seq (mark3 h hp7 k7 (Nat.le_refl _) (by simp) fun st8 hp8 k8 => ?_)
  refine w_seq (mark3 h hp8 k8 (Nat.le_refl _) (by simp) fun st9 hp9 k9 => ?_)
  refine w_seq (mark3 h hp9 k9 (Nat.le_refl _) (by simp) fun st10 hp10 k10 => ?_)
  refine w_seq (mark3 h hp10 k10 (Nat.le_refl _) (by simp) fun st11 hp11 k11 => ?_)
  exact w_seq (w_ret (w_var rfl (q _ _ k11 hp11)))
theorem made_ok (hP : P.df "_law_made" = some d_made0) (hk : 1 ≤ k) {v : MV} (q : ∀ p ns st', st'[p]? = some (.lst (ns.map .ref)) → FourAt st' v ns kinds → Keep [] st st' → Q (.ref p) st') : sem P k "_law_made" [v] st Q X := by
  refine sem_go hk hP rfl ?_
  show wpSs P _ [_, _, _, _, _, _, _, _, _, _] _ [some v, none] st
  refine w_seq (w_set (w_lst (w_arg (w_mkx (w_var rfl ?_)))))
  refine w_arg (w_mkx (w_var rfl ?_))
  refine w_arg (w_mkx (w_var rfl ?_))
  refine w_arg (w_mkx (w_var rfl ?_))
  refine w_nil ⟨by simp [big], ?_⟩
  have nw := four_new (st := st) (t := [MO.lst ([st.length, st.length + 1, st.length + 2, st.length + 3].map MV.ref)]) (v := v) (a := "BadBox") (b := "Uneven") (c := "NoPlace") (d := "BadStep")
  have k4 : Keep [] st (st ++ [.exc "BadBox" v] ++ [.exc "Uneven" v] ++ [.exc "NoPlace" v] ++ [.exc "BadStep" v]) := (((Keep.app [] _ _).trans (Keep.app [] _ _)).trans (Keep.app [] _ _)).trans (Keep.app [] _ _)
  have el : [MV.ref st.length, .ref (st ++ [MO.exc "BadBox" v]).length, .ref (st ++ [MO.exc "BadBox" v] ++ [MO.exc "Uneven" v]).length, .ref (st ++ [MO.exc "BadBox" v] ++ [MO.exc "Uneven" v] ++ [MO.exc "NoPlace" v]).length] = [st.length, st.length + 1, st.length + 2, st.length + 3].map MV.ref := by simp
  rw [el]
  have k5 : Keep [] st (st ++ [MO.exc "BadBox" v] ++ [MO.exc "Uneven" v] ++ [MO.exc "NoPlace" v] ++ [MO.exc "BadStep" v] ++ [MO.lst ([st.length, st.length + 1, st.length + 2, st.length + 3].map MV.ref)]) := k4.trans (Keep.app _ _ _)
  have hp1 : (st ++ [MO.exc "BadBox" v] ++ [MO.exc "Uneven" v] ++ [MO.exc "NoPlace" v] ++ [MO.exc "BadStep" v] ++ [MO.lst ([st.length, st.length + 1, st.length + 2, st.length + 3].map MV.ref)])[(st ++ [MO.exc "BadBox" v] ++ [MO.exc "Uneven" v] ++ [MO.exc "NoPlace" v] ++ [MO.exc "BadStep" v]).length]? = some (.lst ([st.length, st.length + 1, st.length + 2, st.length + 3].map MV.ref)) := get_new
  have ge : st.length ≤ (st ++ [MO.exc "BadBox" v] ++ [MO.exc "Uneven" v] ++ [MO.exc "NoPlace" v] ++ [MO.exc "BadStep" v]).length := k4.le
  generalize (st ++ [MO.exc "BadBox" v] ++ [MO.exc "Uneven" v] ++ [MO.exc "NoPlace" v] ++ [MO.exc "BadStep" v] ++ [MO.lst ([st.length, st.length + 1, st.length + 2, st.length + 3].map MV.ref)]) = st1 at *
  generalize (st ++ [MO.exc "BadBox" v] ++ [MO.exc "Uneven" v] ++ [MO.exc "NoPlace" v] ++ [MO.exc "BadStep" v]).length = p at *
  generalize hns : [st.length, st.length + 1, st.length + 2, st.length + 3] = n1 at *
  refine w_seq (make4 hp1 nw k5 ge (by rw [nw.1]; simp) fun n2 st2 hp2 f2 k2 => ?_)
  refine w_seq (make4 hp2 f2 k2 ge (by rw [f2.1]; simp) fun n3 st3 hp3 f3 k3 => ?_)
  refine w_seq (make4 hp3 f3 k3 ge (by rw [f3.1]; simp) fun n4 st4 hp4 f4 k4 => ?_)
  refine w_seq (make4 hp4 f4 k4 ge (by rw [f4.1]; simp) fun n5 st5 hp5 f5 k5 => ?_)
  refine w_seq (make4 hp5 f5 k5 ge (by rw [f5.1]; simp) fun n6 st6 hp6 f6 k6 => ?_)
  refine w_seq (make4 hp6 f6 k6 ge (by rw [f6.1]; simp) fun n7 st7 hp7 f7 k7 => ?_)
  refine w_seq (make4 hp7 f7 k7 ge (by rw [f7.1]; simp) fun n8 st8 hp8 f8 k8 => ?_)
  have l8 : n8.length = 32 := f8.1
  refine w_seq (w_expr (w_bmt (w_var rfl ⟨bt_lst hp8 rfl, ?_⟩)))
  refine w_arg (w_lst (w_arg (w_mkx (w_var rfl ?_))))
  refine w_nil ⟨by simp [big], w_nil ?_⟩
  refine m_ext0 (get_app (get_app hp8)) get_new (by simp [big]; omega) ?_
  have hp9 : (st8 ++ [MO.exc "BadLine" v] ++ [MO.lst [MV.ref st8.length]])[p]? = some (.lst (n8.map .ref)) := get_app (get_app hp8)
  have f9 : FourAt (st8 ++ [MO.exc "BadLine" v] ++ [MO.lst [MV.ref st8.length]]) v n8 _ := f8.keep fun n e _ h => get_app (get_app h)
  have f1 : FourAt (st8 ++ [MO.exc "BadLine" v] ++ [MO.lst [MV.ref st8.length]]) v [st8.length] ["BadLine"] := by
    refine ⟨rfl, fun i n e h1 h2 => ?_⟩
    match i, h1, h2 with
    | 0, h1, h2 => simp at h1 h2; subst h1 h2; simp
    | i + 1, h1, h2 => simp at h1
  have k9 : Keep [] st (st8 ++ [MO.exc "BadLine" v] ++ [MO.lst [MV.ref st8.length]]) := k8.trans ((Keep.app _ _ _).trans (Keep.app _ _ _))
  have eb : n8.map MV.ref ++ [MV.ref st8.length] = (n8 ++ [st8.length]).map MV.ref := by simp
  refine w_seq (w_ret (w_var rfl ?_))
  refine q _ (n8 ++ [st8.length]) _ (by rw [← eb]; exact get_set hp9) ((f9.app f1).keep fun n e _ h => ?_) (k9.new _ ge)
  by_cases z : p = n
  · subst z
    rw [hp9] at h
    cases h
  · exact get_other z h
end
end Mi
-- Q3
namespace Mi
/-- what the classes are -/
def kindsOk (P : Prog) : Bool := (kinds.all fun c => kinds.all fun d => P.xs c d == (c == d)) && kinds.all fun c => P.xs c "BoxError" && !P.xs "BoxError" c
structure HasK0 (P : Prog) : Prop where
  R : HasRp P
  mr : P.df "_law_marked" = some d_marked0
  ma : P.df "_law_made" = some d_made0
  ik : P.df "_law_is_kept" = some d_is_kept0
  ks : kindsOk P = true
/-- a value with a text of its own -/
def Told (P : Prog) (st : Sto) (v : MV) : Prop := ∃ t : Tx, ∀ st', Keep [] st st' → ∀ {Q : Post}, Q (.str t) st' → opBlt P.rp .repr [v] st' Q
theorem Told.keep {P : Prog} {st st' : Sto} {v : MV} (h : Told P st v) (k : Keep [] st st') : Told P st' v := by
  obtain ⟨t, h⟩ := h
  exact ⟨t, fun st'' k' => h st'' (k.trans k')⟩
theorem pd_bls {st : Sto} {n : Nat} : ∀ bs : List Bool, (bs.map MV.bl).mapM (toPD (n + 1) st) = some (bs.map PD.bl)
  | [] => rfl
  | b :: bs => by
    rw [List.map_cons, List.mapM_cons, pd_bls bs]
    rfl
theorem eqv_bls : ∀ bs : List Bool, PD.eqv (.lst (bs.map PD.bl)) (.lst (bs.map PD.bl)) = true
  | [] => rfl
  | b :: bs => by
    have := eqv_bls bs
    simp only [PD.eqv, List.map_cons, PD.eqvAll] at this ⊢
    simp [this]
theorem fine_bls : ∀ bs : List Bool, PD.fine (.lst (bs.map PD.bl)) = true
  | [] => rfl
  | b :: bs => by
    have := fine_bls bs
    simp only [PD.fine, List.map_cons, PD.fineAll] at this ⊢
    simp [this]
theorem ne_bls {st : Sto} {p q : Nat} {bs : List Bool} {Q : Bool → Sto → Prop} (hp : st[p]? = some (.lst (bs.map .bl))) (hq : st[q]? = some (.lst (bs.map .bl))) (h : Q false st) : opCmp .ne (.ref p) (.ref q) st Q := by
  refine .inl ⟨.lst (bs.map PD.bl), .lst (bs.map PD.bl), ?_, ?_, .inr ⟨fine_bls bs, fine_bls bs⟩, ?_⟩
  · simp only [toPD, hp, pd_bls]; rfl
  · simp only [toPD, hq, pd_bls]; rfl
  · rw [eqv_bls]; exact h
theorem in_bls {st : Sto} {p : Nat} {bs : List Bool} {Q : Bool → Sto → Prop} (hp : st[p]? = some (.lst (bs.map .bl))) (h : Q (bs.any fun b => b) st) : opIn (.bl true) (.ref p) st Q := by
  simp only [opIn, hp]
  refine ⟨.bl true, bs.map PD.bl, rfl, pd_bls bs, .inl ⟨rfl, by simp [scalar]⟩, ?_⟩
  have : ((bs.map PD.bl).any fun z => PD.eqv z (.bl true)) = bs.any fun b => b := by
    rw [List.any_map]
    congr 1
    funext b
    cases b <;> rfl
  rw [this]
  exact h
theorem inn_bls {st : Sto} {p : Nat} {bs : List Bool} {Q : Bool → Sto → Prop} (hp : st[p]? = some (.lst (bs.map .bl))) (h : Q (bs.any fun b => b) st) : opCmp .inn (.bl true) (.ref p) st Q := in_bls hp h
theorem nin_bls {st : Sto} {p : Nat} {bs : List Bool} {Q : Bool → Sto → Prop} (hp : st[p]? = some (.lst (bs.map .bl))) (h : Q (!(bs.any fun b => b)) st) : opCmp .nin (.bl true) (.ref p) st Q := in_bls (Q := fun b st' => Q (!b) st') hp h
theorem enum_at0 : ∀ {xs : List MV} {n : Nat} {pre r : List MV} {x : MV}, enumFrom n xs = pre ++ x :: r → ∃ y, xs[pre.length]? = some y ∧ x = .tup [.int ((n + pre.length : Nat) : Int), y]
  | [], n, pre, r, x, e => by simp [enumFrom] at e
  | z :: xs, n, [], r, x, e => by
    simp only [enumFrom, List.nil_append, List.cons.injEq] at e
    exact ⟨z, rfl, e.1.symm⟩
  | z :: xs, n, p :: pre, r, x, e => by
    simp only [enumFrom, List.cons_append, List.cons.injEq] at e
    obtain ⟨y, h1, h2⟩ := enum_at0 e.2
    exact ⟨y, by simpa using h1, by rw [h2]; congr 3; simp; omega⟩
theorem item_at0 {α : Type} {f : α → MV} {l : List α} {pre r : List MV} {x : MV} (e : l.map f = pre ++ x :: r) : ∃ y, l[pre.length]? = some y ∧ x = f y := by
  have h := congrArg (fun l => l[pre.length]?) e
  simp only [List.getElem?_map] at h
  rw [List.getElem?_append_right (Nat.le_refl _), Nat.sub_self] at h
  obtain ⟨y, hy, e2⟩ := Option.map_eq_some_iff.mp h
  exact ⟨y, hy, by simpa using e2.symm⟩
section
variable {P : Prog} (H : HasK0 P) {k : Nat} {st : Sto} {Q : Post} {X : Xp}
include H
theorem HasK0.at_ {i j : Nat} {c d : String} (h1 : kinds[i]? = some c) (h2 : kinds[j]? = some d) : P.xs c d = decide (j = i) := by
  have h := H.ks
  unfold kindsOk at h
  rw [Bool.and_eq_true] at h
  have a := List.all_eq_true.mp (List.all_eq_true.mp h.1 c (List.mem_of_getElem? h1)) d (List.mem_of_getElem? h2)
  have nd : kinds.Nodup := by decide +kernel
  rw [beq_iff_eq] at a
  rw [a]
  by_cases e : j = i
  · subst e
    rw [h1] at h2; cases h2
    simp
  · have : c ≠ d := fun z => by
      subst z
      obtain ⟨l1, e1⟩ := List.getElem?_eq_some_iff.mp h1
      obtain ⟨l2, e2⟩ := List.getElem?_eq_some_iff.mp h2
      have PW := List.pairwise_iff_getElem.mp nd
      rcases Nat.lt_or_gt_of_ne e with z | z
      · exact PW j i l2 l1 z (e2.trans e1.symm)
      · exact PW i j l1 l2 z (e1.trans e2.symm)
    simp [e, this]
theorem HasK0.box {c : String} (h1 : c ∈ kinds) : P.xs c "BoxError" = true ∧ P.xs "BoxError" c = false := by
  have h := H.ks
  unfold kindsOk at h
  rw [Bool.and_eq_true] at h
  have a := List.all_eq_true.mp h.2 c h1
  rw [Bool.and_eq_true, Bool.not_eq_true'] at a
  exact a
theorem is_kept_ok (hk : 2 ≤ k) {v : MV} (hv : Told P st v) (q : ∀ st', Keep [] st st' → Q (.bl true) st') : sem P k "_law_is_kept" [v] st Q X := by
  refine sem_go (by omega) H.ik rfl ?_
  show wpSs P (sem P (k - 1)) [_, _, _, _] _ [some v, none, none, none, none] st
  obtain ⟨t, ht⟩ := hv
  refine w_seq (w_for ?_)
  show wpE _ _ _ _ _ _ _
  refine w_call (w_arg (w_var rfl (w_nil ?_)))
  refine made_ok H.ma (by omega) fun p ns st1 hp hf k1 => ?_
  refine ⟨p, _, rfl, hp, ?_⟩
  refine loop_go (fun pre σ st' => (∃ x2 x3, σ = [some v, none, x2, x3, none]) ∧ Keep [] st1 st') ⟨⟨_, _, rfl⟩, Keep.refl _ _⟩ ?_ ?_ ?_
  · rintro _ _ _ ⟨_, k2⟩
    exact k2.at_ _ _ (by simp) hp
  · rintro pre x r σ st2 kk exs ⟨⟨x2, x3, rfl⟩, k2⟩ hkk
    obtain ⟨y, hy, rfl⟩ := enum_at0 (show enumFrom 0 (ns.map MV.ref) = _ from exs)
    rw [Nat.zero_add]
    rw [List.getElem?_map] at hy
    obtain ⟨n, hn, rfl⟩ := Option.map_eq_some_iff.mp hy
    have il : pre.length < kinds.length := by rw [← hf.1]; exact (List.getElem?_eq_some_iff.mp hn).1
    obtain ⟨c, hc⟩ : ∃ c, kinds[pre.length]? = some c := ⟨_, List.getElem?_eq_getElem il⟩
    have hx2 := k2.at_ _ _ (by simp) (hf.2 _ _ _ hn hc)
    have xc : Xc P st2 (.ref n) (P.xs c) := .inl ⟨n, c, v, rfl, hx2, rfl⟩
    refine w_tt rfl ?_
    show wpSs P (sem P (k - 1)) [_, _] _ [some v, none, some (.int (pre.length : Nat)), some (.ref n), none] st2
    refine w_seq (w_iff (w_or (w_cmp (w_call (w_arg (w_var rfl (w_nil ?_)))))))
    refine marked_ok H.mr (by omega) xc fun p3 st3 k3 hp3 => ?_
    refine w_lc (w_rng (w_con ⟨33, rfl, by decide, by decide, by simp [big], ?_⟩))
    refine loop_go (fun pre2 acc st' => Keep [] st3 st' ∧ acc = (List.range pre2.length).map fun j => MV.bl (decide (j = pre.length))) ⟨Keep.refl _ _, rfl⟩ (fun _ _ _ _ => True.intro) ?_ ?_
    · rintro pre2 x r2 acc st' kk2 exs2 ⟨k4, rfl⟩ hkk2
      obtain ⟨j, hj, rfl⟩ := item_at0 exs2
      have ej : j = pre2.length := by
        rw [List.getElem?_range (by have := (List.getElem?_eq_some_iff.mp hj).1; simpa using this)] at hj
        cases hj; rfl
      subst ej
      refine w_tg (w_cn (if_yes rfl (w_cmp (w_var rfl (w_var rfl (e_int ?_))))))
      refine hkk2 _ _ ⟨k4, ?_⟩
      rw [List.length_append, List.length_singleton, List.range_succ, List.map_append]
      have : (((pre2.length : Nat) : Int) == ((pre.length : Nat) : Int)) = decide (pre2.length = pre.length) := by
        rw [Bool.eq_iff_iff]; simp only [beq_iff_eq, decide_eq_true_eq]; omega
      rw [this]
      rfl
    · rintro acc st4 ⟨k4, rfl⟩
      have el : ((List.range ((List.map (fun (i : Nat) => MV.int (i : Int)) (List.range (Int.toNat 33))).length)).map fun j => MV.bl (decide (j = pre.length))) = ((List.range 33).map fun j => decide (j = pre.length)).map MV.bl := by
        rw [List.map_map]; rfl
      rw [el]
      have em : (kinds.map fun d => MV.bl (P.xs c d)) = ((List.range 33).map fun j => decide (j = pre.length)).map MV.bl := by
        rw [List.map_map]
        refine List.ext_getElem? fun j => ?_
        rw [List.getElem?_map, List.getElem?_map]
        cases hd : kinds[j]? with
        | none =>
          have : 33 ≤ j := by have := List.getElem?_eq_none_iff.mp hd; exact this
          rw [List.getElem?_eq_none (by simpa using this)]
          rfl
        | some d =>
          have lj : j < 33 := (List.getElem?_eq_some_iff.mp hd).1
          rw [List.getElem?_range lj]
          simp only [Option.map_some, Function.comp_def]
          rw [H.at_ hc hd]
      rw [em] at hp3
      have k5 : Keep [] st4 (st4 ++ [MO.lst (((List.range 33).map fun j => decide (j = pre.length)).map MV.bl)]) := Keep.app _ _ _
      refine ne_bls (k5.at_ _ _ (by simp) (k4.at_ _ _ (by simp) hp3)) get_new ?_
      generalize st4 ++ [MO.lst (((List.range 33).map fun j => decide (j = pre.length)).map MV.bl)] = st5 at *
      have k25 : Keep [] st2 st5 := k3.trans (k4.trans k5)
      have k05 : Keep [] st st5 := k1.trans (k2.trans k25)
      have hx5 := k25.at_ _ _ (by simp) hx2
      refine w_tr (if_no rfl ?_)
      refine w_cmp (w_blt (w_arg (w_fld (w_var rfl (.inr ⟨rfl, _, _, _, rfl, hx5, w_nil (ht _ k05 ?_)⟩)))))
      refine w_blt (w_arg (w_var rfl (w_nil (ht _ k05 (n_str ?_)))))
      rw [show (!(t == t)) = false by simp]
      refine w_tr (if_no rfl ?_)
      refine w_seq (w_iff (w_or (w_not (w_isk rfl (xc.keep k25) ?_))))
      rw [(H.box (List.mem_of_getElem? hc)).1]
      refine w_tr (w_tr (if_no rfl ?_))
      refine w_not (w_isv (w_var rfl ⟨(xc.keep k25).any, ?_⟩))
      refine w_tr (w_tr (if_no rfl ?_))
      exact hkk _ _ ⟨⟨_, _, rfl⟩, k2.trans k25⟩
  · rintro σ st2 ⟨⟨x2, x3, rfl⟩, k2⟩
    show wpSs P (sem P (k - 1)) [_, _, _] _ [some v, none, x2, x3, none] st2
    refine w_seq (w_set (w_mkx (w_var rfl ?_)))
    have hb : (st2 ++ [MO.exc "BoxError" v])[st2.length]? = some (.exc "BoxError" v) := get_new
    have k3 : Keep [] st2 (st2 ++ [MO.exc "BoxError" v]) := Keep.app _ _ _
    generalize st2.length = b at *
    generalize st2 ++ [MO.exc "BoxError" v] = st3 at *
    have xb : Xc P st3 (.ref b) (P.xs "BoxError") := .inl ⟨b, _, v, rfl, hb, rfl⟩
    have k03 : Keep [] st st3 := k1.trans (k2.trans k3)
    refine w_seq (w_iff (w_or (w_cmp (w_blt (w_arg (w_fld (w_var rfl (.inr ⟨rfl, _, _, _, rfl, hb, w_nil (ht _ k03 ?_)⟩)))))))) 
    refine w_blt (w_arg (w_var rfl (w_nil (ht _ k03 (n_str ?_)))))
    rw [show (!(t == t)) = false by simp]
    refine w_tr (if_no rfl ?_)
    refine w_or (w_cmp (w_con (w_call (w_arg (w_var rfl (w_nil ?_))))))
    refine marked_ok H.mr (by omega) xb fun p4 st4 k4 hp4 => ?_
    have e4 : (kinds.map fun d => MV.bl (P.xs "BoxError" d)) = (kinds.map fun _ => false).map MV.bl := by
      rw [List.map_map]
      exact List.map_congr_left fun d hd => by simp only [Function.comp_def]; rw [(H.box hd).2]
    rw [e4] at hp4
    refine inn_bls hp4 ?_
    rw [show ((kinds.map fun _ => false).any fun b => b) = false by simp]
    refine w_tr (if_no rfl ?_)
    refine w_not (w_isv (w_var rfl ⟨(xb.keep k4).any, ?_⟩))
    refine w_tr (w_tr (if_no rfl ?_))
    refine w_seq (w_ret (w_cmp (w_con (w_call (w_arg (w_mkb (w_var rfl (w_nil ?_))))))))
    have hv : (st4 ++ [MO.bex])[st4.length]? = some .bex := get_new
    have xv : Xc P (st4 ++ [MO.bex]) (.ref st4.length) (fun _ => false) := .inr ⟨_, rfl, hv, rfl⟩
    refine marked_ok H.mr (by omega) xv fun p5 st5 k5 hp5 => ?_
    have e5 : (kinds.map fun _ => MV.bl false) = (kinds.map fun _ => false).map MV.bl := by rw [List.map_map]; rfl
    rw [e5] at hp5
    refine nin_bls hp5 ?_
    rw [show ((kinds.map fun _ => false).any fun b => b) = false by simp]
    exact q _ (k03.trans (k4.trans ((Keep.app _ _ _).trans k5)))
end
end Mi
-- Q4
namespace Mi
local macro_rules | `(tactic| decreasing_trivial_pre_omega) => `(tactic| repeat (first | (with_reducible refine Wp.go ?_) | ((with_reducible apply w_var); exact rfl) | ((with_reducible refine if_yes ?_ ?_); exact rfl) | ((with_reducible refine if_no ?_ ?_); exact rfl) | (with_reducible refine w_lc ?_) | (with_reducible refine o_mod (by omega) ?_) | (with_reducible refine o_div (by omega) (by omega) ?_)))
local macro_rules | `(tactic| array_get_dec) => `(tactic| repeat (first | (with_reducible refine Wp.go ?_) | ((with_reducible apply w_var); exact rfl) | ((with_reducible refine if_yes ?_ ?_); exact rfl) | ((with_reducible refine if_no ?_ ?_); exact rfl) | (with_reducible refine o_mod (by omega) ?_) | (with_reducible refine o_div (by omega) (by omega) ?_)))
theorem tdc_len : ∀ (f n e : Nat) (l : List Char), n < 10 ^ e → 1 ≤ e → (Nat.toDigitsCore 10 f n l).length ≤ e + l.length
  | 0, n, e, l, _, _ => by simp [Nat.toDigitsCore]
  | f + 1, n, e, l, h, he => by
    rw [Nat.toDigitsCore]
    by_cases c : n / 10 = 0
    · simp only [c, if_true, List.length_cons]; omega
    · simp only [c, if_false]
      have e2 : 2 ≤ e := by
        rcases Nat.lt_or_ge 1 e with z | z
        · exact z
        · have : e = 1 := by omega
          subst this
          exfalso; apply c; omega
      have := tdc_len f (n / 10) (e - 1) (Nat.digitChar (n % 10) :: l) (by
        have : 10 ^ e = 10 ^ (e - 1) * 10 := by rw [← Nat.pow_succ]; congr 1; omega
        rw [this] at h
        exact Nat.div_lt_of_lt_mul (by rw [Nat.mul_comm]; exact h)) (by omega)
      rw [List.length_cons] at this
      omega
theorem natTx_len {n : Nat} (h : n < 10 ^ 10) : (natTx n).length ≤ 10 := by
  unfold natTx Nat.toDigits
  rw [List.length_map]
  exact tdc_len _ _ 10 [] h (by decide)
theorem char_lt (c : Char) : c.toNat < 1114112 := by
  have := c.valid
  unfold UInt32.isValidChar Nat.isValidChar at this
  show c.val.toNat < 1114112
  omega
theorem natTx_ok (n : Nat) : ∀ c ∈ natTx n, c < 1114112 := by
  intro c hc
  unfold natTx at hc
  obtain ⟨d, _, rfl⟩ := List.mem_map.mp hc
  exact char_lt d
theorem told_of {P : Prog} (R : HasRp P) {st : Sto} {v : MV} {d : PD} (h : ∀ st', Keep [] st st' → toPD 30 st' v = some d) (s : d.shy = true) (w : d.wt ≤ 1000000) : Told P st v := ⟨P.rp d, fun st' k _ q => b_repr R (h st' k) s w q⟩
theorem told_dic {P : Prog} (R : HasRp P) {st : Sto} {v : MV} {d : PD} (h : ∀ st', Keep [] st st' → toPD 30 st' v = some d) (s : d.shyD = true) : Told P st v := ⟨P.rp d, fun st' k _ q => b_reprD R (h st' k) s q⟩
theorem pd_ints {st : Sto} {n : Nat} : ∀ ns : List Int, (ns.map MV.int).mapM (toPD (n + 1) st) = some (ns.map PD.int)
  | [] => rfl
  | b :: bs => by
    rw [List.map_cons, List.mapM_cons, pd_ints bs]
    rfl
theorem fine_ints : ∀ ns : List Int, PD.fine (.lst (ns.map PD.int)) = true
  | [] => rfl
  | b :: bs => by
    have := fine_ints bs
    simp only [PD.fine, List.map_cons, PD.fineAll] at this ⊢
    simp [this]
theorem ne_lsv {st : Sto} {q : Nat} {ns : List Int} {Q : Bool → Sto → Prop} (hq : st[q]? = some (.lst [])) (h : Q (!ns.isEmpty) st) : opCmp .ne (.lsv (ns.map .int)) (.ref q) st Q := by
  refine .inl ⟨.lst (ns.map PD.int), .lst [], ?_, ?_, .inr ⟨fine_ints ns, rfl⟩, ?_⟩
  · simp only [toPD, pd_ints]; rfl
  · simp only [toPD, hq]; rfl
  · cases ns with
    | nil => exact h
    | cons a b => simpa [PD.eqv, PD.eqvAll] using h
section
variable {P : Prog} (H : HasK0 P) {k : Nat} {X : Xp}
include H
theorem law0_ok (hL : P.df "law" = some d_law0) (hk : 4 ≤ k) (ns : List Int) : sem P k "law" [.lsv (ns.map .int)] [] (fun v _ => v = .bl true) X := by
  refine sem_go (by omega) hL rfl ?_
  show wpSs P (sem P (k - 1)) [_, _, _] _ [some (.lsv (ns.map .int)), none, none, none] []
  suffices fin : ∀ (c : Int) st, 0 ≤ c → c < 1000000000 → wpSs P (sem P (k - 1)) (d_law0.body.drop 1) { nx := fun _ st' => (fun (v : MV) (_ : Sto) => v = .bl true) .non st', rt := fun v _ => v = .bl true, bk := fun _ _ => False, ct := fun _ _ => False, ex := fun c v _ st' => X c v st' } [some (.lsv (ns.map .int)), some (.int c), none, none] st by
    refine w_seq (w_set (w_bin (w_blt (w_arg (w_ite (w_cmp (w_var rfl (w_lst (w_nil ⟨by simp [big], ?_⟩))))))))) 
    refine ne_lsv get_new ?_
    refine w_tr ?_
    have done : ∀ (x : Int) st, wpE P (sem P (k - 1)) (.bin .pow (.con (.int 10)) (.con (.int 9))) [some (.lsv (ns.map .int)), none, none, none] st (fun y st2 => opBin .mod (.int x) y st2 fun v st3 => wpSs P (sem P (k - 1)) (d_law0.body.drop 1) { nx := fun _ st' => (fun (v : MV) (_ : Sto) => v = .bl true) .non st', rt := fun v _ => v = .bl true, bk := fun _ _ => False, ct := fun _ _ => False, ex := fun c v _ st' => X c v st' } ([some (.lsv (ns.map .int)), none, none, none].set 1 (some v)) st3) (fun c v st' => X c v st') := fun x st => by
      refine w_bin (w_con (w_con (o_pow (by decide) (by decide) (by decide +kernel) ?_)))
      refine o_mod (by decide) ?_
      exact fin _ _ (Int.emod_nonneg _ (by decide)) (by
        have := Int.emod_lt_of_pos x (show (0 : Int) < 10 ^ (9 : Int).toNat by decide)
        exact this)
    cases ns with
    | nil =>
      refine if_no rfl ?_
      exact w_con (w_nil (b_int (done 0 _)))
    | cons z zs =>
      refine if_yes rfl ?_
      exact w_sub (w_var rfl (w_con (.inl ⟨0, .int z, rfl, at_first, w_nil (b_int (done z _))⟩)))
  intro c st c0 c1
  show wpSs P (sem P (k - 1)) [_, _] _ [some (.lsv (ns.map .int)), some (.int c), none, none] st
  obtain ⟨n, rfl⟩ : ∃ n : Nat, c = (n : Int) := ⟨c.toNat, by omega⟩
  have hn : n < 10 ^ 10 := by omega
  have hl := natTx_len hn
  have ho := natTx_ok n
  have ei : intTx (n : Int) = natTx n := rfl
  decreasing_trivial_pre_omega
  refine ⟨by have : (1000000000 : Nat) ≤ 2 ^ 1000 := by decide +kernel
             omega, ?_⟩
  rw [ei]
  generalize natTx n = tx at *
  decreasing_trivial_pre_omega
  refine ⟨by simp [big]; omega, ?_⟩
  decreasing_trivial_pre_omega
  refine ⟨by simp [big], ?_⟩
  decreasing_trivial_pre_omega
  refine ⟨by simp [big], ?_⟩
  decreasing_trivial_pre_omega
  refine ⟨rfl, by simp, ?_⟩
  decreasing_trivial_pre_omega
  refine ⟨by simp [big], ?_⟩
  decreasing_trivial_pre_omega
  refine ⟨by simp [big], ?_⟩
  decreasing_trivial_pre_omega
  refine ⟨by simp [big], ?_⟩
  decreasing_trivial_pre_omega
  refine ⟨by simp [big], ?_⟩
  decreasing_trivial_pre_omega
  refine ⟨by simp [big], ?_⟩
  suffices last : ∀ (T : Sto) (L A B C : Nat), T[L]? = some (.lst [.non, .int (n : Int), .int (-(n : Int)), .bl true, .str ([116, 101, 120, 116, 32] ++ tx), .tup [.int (n : Int), .str [97]], .ref A, .ref B, .tup [], .tup [.tup [.int (n : Int), .non], .ref C]]) →
      T[A]? = some (.lst [.int (n : Int)]) → T[B]? = some (.dic false [(.str [97], .int (n : Int))]) → T[C]? = some (.lst []) →
      wpSs P (sem P (k - 1)) [.ret (.blt .all (.cons (.lc (.call "_law_is_kept" (.cons (.var 3) .nil)) (.name 3) (.ev (.var 2)) .non [3]) .nil))] { nx := fun _ st' => (fun (v : MV) (_ : Sto) => v = .bl true) .non st', rt := fun v _ => v = .bl true, bk := fun _ _ => False, ct := fun _ _ => False, ex := fun c v _ st' => X c v st' } [some (.lsv (ns.map .int)), some (.int (n : Int)), some (.ref L), none] T by
    exact last _ _ _ _ _ get_new (get_app (get_app (get_app get_new))) (get_app (get_app get_new)) (get_app get_new)
  intro T L A B C hL hA hB hC
  have okT : PD.shy (.str ([116, 101, 120, 116, 32] ++ tx)) = true := by
    simp only [PD.shy, List.all_append, Bool.and_eq_true]
    exact ⟨by decide, List.all_eq_true.mpr fun c hc => decide_eq_true (ho c hc)⟩
  have iN : PD.shy (.int (n : Int)) = true := by simp only [PD.shy, decide_eq_true_eq]; omega
  have iM : PD.shy (.int (-(n : Int))) = true := by simp only [PD.shy, decide_eq_true_eq]; omega
  have all : ∀ v ∈ ([.non, .int (n : Int), .int (-(n : Int)), .bl true, .str ([116, 101, 120, 116, 32] ++ tx), .tup [.int (n : Int), .str [97]], .ref A, .ref B, .tup [], .tup [.tup [.int (n : Int), .non], .ref C]] : List MV), Told P T v := by
    intro v hv
    simp only [List.mem_cons, List.not_mem_nil, or_false] at hv
    rcases hv with rfl | rfl | rfl | rfl | rfl | rfl | rfl | rfl | rfl | rfl
    · exact told_of H.R (d := .non) (fun _ _ => rfl) rfl (by decide)
    · exact told_of H.R (d := .int (n : Int)) (fun _ _ => rfl) iN (by simp [PD.wt])
    · exact told_of H.R (d := .int (-(n : Int))) (fun _ _ => rfl) iM (by simp [PD.wt])
    · exact told_of H.R (d := .bl true) (fun _ _ => rfl) rfl (by decide)
    · exact told_of H.R (d := .str ([116, 101, 120, 116, 32] ++ tx)) (fun _ _ => rfl) okT (by simp [PD.wt]; omega)
    · exact told_of H.R (d := .tup [.int (n : Int), .str [97]]) (fun _ _ => rfl) (by simp only [PD.shy, PD.shyAll] at iN ⊢; simp [iN]; omega) (by simp [PD.wt, PD.wtAll])
    · refine told_of H.R (d := .lst [.int (n : Int)]) (fun st' k' => ?_) (by simp only [PD.shy, PD.shyAll] at iN ⊢; simp [iN]; omega) (by simp [PD.wt, PD.wtAll])
      simp only [toPD, k'.at_ _ _ (by simp) hA]
      rfl
    · refine told_dic H.R (d := .dic [(.str [97], .int (n : Int))]) (fun st' k' => ?_) ?_
      · simp only [toPD, k'.at_ _ _ (by simp) hB]
        rfl
      · simp only [PD.shyD]
        simp [PD.scal, PD.wt]
        exact ⟨by decide, iN⟩
    · exact told_of H.R (d := .tup []) (fun _ _ => rfl) rfl (by decide)
    · refine told_of H.R (d := .tup [.tup [.int (n : Int), .non], .lst []]) (fun st' k' => ?_) (by simp only [PD.shy, PD.shyAll] at iN ⊢; simp [iN]; omega) (by simp [PD.wt, PD.wtAll])
      have hc := k'.at_ _ _ (by simp) hC
      simp only [toPD, List.mapM_cons, List.mapM_nil, hc]
      rfl
  have len : ([.non, .int (n : Int), .int (-(n : Int)), .bl true, .str ([116, 101, 120, 116, 32] ++ tx), .tup [.int (n : Int), .str [97]], .ref A, .ref B, .tup [], .tup [.tup [.int (n : Int), .non], .ref C]] : List MV).length = 10 := rfl
  generalize ([.non, .int (n : Int), .int (-(n : Int)), .bl true, .str ([116, 101, 120, 116, 32] ++ tx), .tup [.int (n : Int), .str [97]], .ref A, .ref B, .tup [], .tup [.tup [.int (n : Int), .non], .ref C]] : List MV) = vs at *
  refine w_seq (w_ret (w_blt (w_arg (w_lc (w_ev (w_var rfl (it_lst hL ⟨by show vs.length < big; simp [big]; omega, ?_⟩)))))))
  refine loop_go (fun pre acc st' => Keep [] T st' ∧ acc = (pre.map fun _ => true).map MV.bl) ⟨Keep.refl _ _, rfl⟩ ?_ ?_ ?_
  · rintro _ _ _ ⟨k1, _⟩
    exact k1.at_ _ _ (by simp) hL
  · rintro pre x r acc st1 kk exs ⟨k1, rfl⟩ hkk
    have exs : vs = pre ++ x :: r := exs
    refine w_tg (w_cn (if_yes rfl ?_))
    refine w_call (w_arg (w_var rfl (w_nil ?_)))
    refine is_kept_ok H (by omega) ((all x (by rw [exs]; simp)).keep k1) fun st2 k2 => ?_
    exact hkk _ _ ⟨k1.trans k2, by simp⟩
  · rintro acc st1 ⟨k1, rfl⟩
    refine w_nil ⟨_, get_new, ?_⟩
    show MV.bl _ = MV.bl true
    congr 1
    simp
end
end Mi
-- M0
namespace Law0
open PySem L2 Mi Snd
def top (i : Nat) : Stmt := PySem.Challenge.pw_boxtalks_k00_errors_keep_their_value.main.body.getD i (.Pass ⟨0, 0, 0, 0⟩)
def d__law_is_kept : IDef := ⟨1, 5, [
    .for_ (.tup [2, 3]) (.enu (.call "_law_made" (.cons (.var 0) .nil))) [.iff (.or (.cmp .ne (.call "_law_marked" (.cons (.var 3) .nil)) (.lc (.cmp .eq (.var 4) (.var 2)) (.name 4) (.rng (.con (.int 33))) .non [4])) (.cmp .ne (.blt .repr (.cons (.fld (.var 3) "value") .nil)) (.blt .repr (.cons (.var 0) .nil)))) [.ret (.con (.bl false))] [], .iff (.or (.not (.isx (.var 3) "BoxError")) (.not (.isv (.var 3)))) [.ret (.con (.bl false))] []],
    .asg (.name 1) (.mkx "BoxError" (.var 0)),
    .iff (.or (.cmp .ne (.blt .repr (.cons (.fld (.var 1) "value") .nil)) (.blt .repr (.cons (.var 0) .nil))) (.or (.cmp .inn (.con (.bl true)) (.call "_law_marked" (.cons (.var 1) .nil))) (.not (.isv (.var 1))))) [.ret (.con (.bl false))] [],
    .ret (.cmp .nin (.con (.bl true)) (.call "_law_marked" (.cons (.mkb (.var 0)) .nil)))]⟩
def d__law_made : IDef := ⟨1, 2, [
    .asg (.name 1) (.lst (.cons (.mkx "BadBox" (.var 0)) (.cons (.mkx "Uneven" (.var 0)) (.cons (.mkx "NoPlace" (.var 0)) (.cons (.mkx "BadStep" (.var 0)) .nil))))),
    .expr (.bmt (.var 1) .extend (.cons (.lst (.cons (.mkx "NoStep" (.var 0)) (.cons (.mkx "BadRecord" (.var 0)) (.cons (.mkx "BadStanding" (.var 0)) (.cons (.mkx "BadMove" (.var 0)) .nil))))) .nil)),
    .expr (.bmt (.var 1) .extend (.cons (.lst (.cons (.mkx "OtherLines" (.var 0)) (.cons (.mkx "Wide" (.var 0)) (.cons (.mkx "Heavy" (.var 0)) (.cons (.mkx "TooMany" (.var 0)) .nil))))) .nil)),
    .expr (.bmt (.var 1) .extend (.cons (.lst (.cons (.mkx "BadNet" (.var 0)) (.cons (.mkx "NoPart" (.var 0)) (.cons (.mkx "BadGiven" (.var 0)) (.cons (.mkx "BadMoves" (.var 0)) .nil))))) .nil)),
    .expr (.bmt (.var 1) .extend (.cons (.lst (.cons (.mkx "BadInputs" (.var 0)) (.cons (.mkx "Chooses" (.var 0)) (.cons (.mkx "BadNumber" (.var 0)) (.cons (.mkx "BadWish" (.var 0)) .nil))))) .nil)),
    .expr (.bmt (.var 1) .extend (.cons (.lst (.cons (.mkx "BadOffers" (.var 0)) (.cons (.mkx "BadBoxes" (.var 0)) (.cons (.mkx "BadSeen" (.var 0)) (.cons (.mkx "NoBox" (.var 0)) .nil))))) .nil)),
    .expr (.bmt (.var 1) .extend (.cons (.lst (.cons (.mkx "NoLine" (.var 0)) (.cons (.mkx "BadWorth" (.var 0)) (.cons (.mkx "NotNow" (.var 0)) (.cons (.mkx "NotFirst" (.var 0)) .nil))))) .nil)),
    .expr (.bmt (.var 1) .extend (.cons (.lst (.cons (.mkx "NothingToUndo" (.var 0)) (.cons (.mkx "NothingToRedo" (.var 0)) (.cons (.mkx "NoTrial" (.var 0)) (.cons (.mkx "BadJournal" (.var 0)) .nil))))) .nil)),
    .expr (.bmt (.var 1) .extend (.cons (.lst (.cons (.mkx "BadLine" (.var 0)) .nil)) .nil)),
    .ret (.var 1)]⟩
def d__law_marked : IDef := ⟨1, 2, [
    .asg (.name 1) (.lst (.cons (.isx (.var 0) "BadBox") (.cons (.isx (.var 0) "Uneven") (.cons (.isx (.var 0) "NoPlace") .nil)))),
    .expr (.bmt (.var 1) .extend (.cons (.lst (.cons (.isx (.var 0) "BadStep") (.cons (.isx (.var 0) "NoStep") (.cons (.isx (.var 0) "BadRecord") .nil)))) .nil)),
    .expr (.bmt (.var 1) .extend (.cons (.lst (.cons (.isx (.var 0) "BadStanding") (.cons (.isx (.var 0) "BadMove") (.cons (.isx (.var 0) "OtherLines") .nil)))) .nil)),
    .expr (.bmt (.var 1) .extend (.cons (.lst (.cons (.isx (.var 0) "Wide") (.cons (.isx (.var 0) "Heavy") (.cons (.isx (.var 0) "TooMany") .nil)))) .nil)),
    .expr (.bmt (.var 1) .extend (.cons (.lst (.cons (.isx (.var 0) "BadNet") (.cons (.isx (.var 0) "NoPart") (.cons (.isx (.var 0) "BadGiven") .nil)))) .nil)),
    .expr (.bmt (.var 1) .extend (.cons (.lst (.cons (.isx (.var 0) "BadMoves") (.cons (.isx (.var 0) "BadInputs") (.cons (.isx (.var 0) "Chooses") .nil)))) .nil)),
    .expr (.bmt (.var 1) .extend (.cons (.lst (.cons (.isx (.var 0) "BadNumber") (.cons (.isx (.var 0) "BadWish") (.cons (.isx (.var 0) "BadOffers") .nil)))) .nil)),
    .expr (.bmt (.var 1) .extend (.cons (.lst (.cons (.isx (.var 0) "BadBoxes") (.cons (.isx (.var 0) "BadSeen") (.cons (.isx (.var 0) "NoBox") .nil)))) .nil)),
    .expr (.bmt (.var 1) .extend (.cons (.lst (.cons (.isx (.var 0) "NoLine") (.cons (.isx (.var 0) "BadWorth") (.cons (.isx (.var 0) "NotNow") .nil)))) .nil)),
    .expr (.bmt (.var 1) .extend (.cons (.lst (.cons (.isx (.var 0) "NotFirst") (.cons (.isx (.var 0) "NothingToUndo") (.cons (.isx (.var 0) "NothingToRedo") .nil)))) .nil)),
    .expr (.bmt (.var 1) .extend (.cons (.lst (.cons (.isx (.var 0) "NoTrial") (.cons (.isx (.var 0) "BadJournal") (.cons (.isx (.var 0) "BadLine") .nil)))) .nil)),
    .ret (.var 1)]⟩
def d_law : IDef := ⟨1, 4, [
    .asg (.name 1) (.bin .mod (.blt .int (.cons (.ite (.cmp .ne (.var 0) (.lst .nil)) (.sub (.var 0) (.con (.int 0))) (.con (.int 0))) .nil)) (.bin .pow (.con (.int 10)) (.con (.int 9)))),
    .asg (.name 2) (.lst (.cons (.con .non) (.cons (.var 1) (.cons (.neg (.var 1)) (.cons (.con (.bl true)) (.cons (.bin .add (.con (.str [116, 101, 120, 116, 32])) (.blt .str (.cons (.var 1) .nil))) (.cons (.tup (.cons (.var 1) (.cons (.con (.str [97])) .nil))) (.cons (.lst (.cons (.var 1) .nil)) (.cons (.dic (.cons (.con (.str [97])) (.var 1) .nil)) (.cons (.tup .nil) (.cons (.tup (.cons (.tup (.cons (.var 1) (.cons (.con .non) .nil))) (.cons (.lst .nil) .nil))) .nil))))))))))),
    .ret (.blt .all (.cons (.lc (.call "_law_is_kept" (.cons (.var 3) .nil)) (.name 3) (.ev (.var 2)) .non [3]) .nil))]⟩
def dat : Dat := ⟨[],
  ["_law_is_kept", "_law_made", "_law_marked", "law"],
  [],
  [("_law_is_kept", d__law_is_kept), ("_law_made", d__law_made), ("_law_marked", d__law_marked), ("law", d_law)],
  [],
  [],
  [], [], ["BoxError", "BadStep", "NoPlace", "Uneven", "BadBox", "BadMove", "BadStanding", "BadRecord", "NoStep", "TooMany", "Heavy", "Wide", "OtherLines", "BadMoves", "BadGiven", "NoPart", "BadNet", "BadWish", "BadNumber", "Chooses", "BadInputs", "NoBox", "BadSeen", "BadBoxes", "BadOffers", "NotFirst", "NotNow", "BadWorth", "NoLine", "BadJournal", "NoTrial", "NothingToRedo", "NothingToUndo", "BadLine"], ["BoxError", "NoPlace", "Uneven", "BadBox", "BadRecord", "NoStep", "BadStep", "OtherLines", "BadMove", "BadStanding", "TooMany", "Heavy", "Wide", "BadGiven", "NoPart", "BadNet", "Chooses", "BadInputs", "BadMoves", "BadOffers", "BadWish", "BadNumber", "NoBox", "BadSeen", "BadBoxes", "NotNow", "BadWorth", "NoLine", "NothingToRedo", "NothingToUndo", "NotFirst", "BadLine", "BadJournal", "NoTrial"], [("BoxError", "BoxError"), ("BadStep", "BoxError"), ("BadStep", "BadStep"), ("NoPlace", "BoxError"), ("NoPlace", "NoPlace"), ("Uneven", "BoxError"), ("Uneven", "Uneven"), ("BadBox", "BoxError"), ("BadBox", "BadBox"), ("BadMove", "BoxError"), ("BadMove", "BadMove"), ("BadStanding", "BoxError"), ("BadStanding", "BadStanding"), ("BadRecord", "BoxError"), ("BadRecord", "BadRecord"), ("NoStep", "BoxError"), ("NoStep", "NoStep"), ("TooMany", "BoxError"), ("TooMany", "TooMany"), ("Heavy", "BoxError"), ("Heavy", "Heavy"), ("Wide", "BoxError"), ("Wide", "Wide"), ("OtherLines", "BoxError"), ("OtherLines", "OtherLines"), ("BadMoves", "BoxError"), ("BadMoves", "BadMoves"), ("BadGiven", "BoxError"), ("BadGiven", "BadGiven"), ("NoPart", "BoxError"), ("NoPart", "NoPart"), ("BadNet", "BoxError"), ("BadNet", "BadNet"), ("BadWish", "BoxError"), ("BadWish", "BadWish"), ("BadNumber", "BoxError"), ("BadNumber", "BadNumber"), ("Chooses", "BoxError"), ("Chooses", "Chooses"), ("BadInputs", "BoxError"), ("BadInputs", "BadInputs"), ("NoBox", "BoxError"), ("NoBox", "NoBox"), ("BadSeen", "BoxError"), ("BadSeen", "BadSeen"), ("BadBoxes", "BoxError"), ("BadBoxes", "BadBoxes"), ("BadOffers", "BoxError"), ("BadOffers", "BadOffers"), ("NotFirst", "BoxError"), ("NotFirst", "NotFirst"), ("NotNow", "BoxError"), ("NotNow", "NotNow"), ("BadWorth", "BoxError"), ("BadWorth", "BadWorth"), ("NoLine", "BoxError"), ("NoLine", "NoLine"), ("BadJournal", "BoxError"), ("BadJournal", "BadJournal"), ("NoTrial", "BoxError"), ("NoTrial", "NoTrial"), ("NothingToRedo", "BoxError"), ("NothingToRedo", "NothingToRedo"), ("NothingToUndo", "BoxError"), ("NothingToUndo", "NothingToUndo"), ("BadLine", "BoxError"), ("BadLine", "BadLine")]⟩
abbrev s__law_is_kept : Spot := ⟨"_law_is_kept", "_law_is_kept", top 38, ["_law_value", "_law_base", "_law_number", "_law_error", "_law_at"], ["_law_value"]⟩
abbrev s__law_made : Spot := ⟨"_law_made", "_law_made", top 36, ["_law_value", "_law_found"], ["_law_value"]⟩
abbrev s__law_marked : Spot := ⟨"_law_marked", "_law_marked", top 37, ["_law_error", "_law_found"], ["_law_error"]⟩
abbrev s_law : Spot := ⟨"law", "law", top 39, ["_law_script", "_law_cell", "_law_some", "_law_value"], ["_law_script"]⟩
abbrev t__law_is_kept : Stmt := top 38
abbrev t__law_made : Stmt := top 36
abbrev t__law_marked : Stmt := top 37
abbrev t_law : Stmt := top 39
abbrev t_ini : Stmt := inClass (top 1) 0
theorem ok__law_is_kept : s__law_is_kept.ok dat = true := by decide +kernel
theorem ok__law_made : s__law_made.ok dat = true := by decide +kernel
theorem ok__law_marked : s__law_marked.ok dat = true := by decide +kernel
theorem ok_law : s_law.ok dat = true := by decide +kernel
theorem ini_b : iniB "self" "value" t_ini = true := by decide +kernel
theorem ini_s : scB "self" "value" (defScope t_ini) = true := by decide +kernel
set_option maxHeartbeats 4000000 in
theorem all_mk {pq : Program} {l : PySem.W.OpenLaw} {w : World} {K : PySem.W.Frag} {mg : Str → Option Value} {h : Heap} {fa  f0 f1 f2 f3 X0 X1 X2 X3 X4 X5 X6 X7 X8 X9 X10 X11 X12 X13 X14 X15 X16 X17 X18 X19 X20 X21 X22 X23 X24 X25 X26 X27 X28 X29 X30 X31 X32 X33  : Addr} (X : K.In h) (G : h.Ns mainGlobals mg) (hfa : mg "law" = some (.ref fa)) (Tb : TabsOf pq mg h)
    {odf0 anf0 : Option Addr} {slf0 : Array (Option Value)} {ocf0 kVf0 dcf0 pmf0 ctf0 : Value} {cdf0 : Value}
    {odf1 anf1 : Option Addr} {slf1 : Array (Option Value)} {ocf1 kVf1 dcf1 pmf1 ctf1 : Value} {cdf1 : Value}
    {odf2 anf2 : Option Addr} {slf2 : Array (Option Value)} {ocf2 kVf2 dcf2 pmf2 ctf2 : Value} {cdf2 : Value}
    {odf3 anf3 : Option Addr} {slf3 : Array (Option Value)} {ocf3 kVf3 dcf3 pmf3 ctf3 : Value} {cdf3 : Value}
    {fI XD cda cci : Addr} {odI anI cddI cldI : Option Addr} {slI ccsI cslI : Array (Option Value)} {ocI kVI dcI pmI ctI cclI clI : Value} {vsI : Array Value} {fileI : Str} {tfI : Tok} {cdDI : ClassData}
    {nmX0 qX0 : Str} {NX0 : Addr} {bsX0 bmX0 : List Value} {snX0 : List Str} {subX0 : List Value} {abX0 : Bool} {colX0 : Option Bool} {ddX0 : Option Addr} {maX0 mbX0 mcX0 mdX0 meX0 : Option Value}
    {nmX1 qX1 : Str} {NX1 : Addr} {bsX1 bmX1 : List Value} {snX1 : List Str} {subX1 : List Value} {abX1 : Bool} {colX1 : Option Bool} {ddX1 : Option Addr} {maX1 mbX1 mcX1 mdX1 meX1 : Option Value}
    {nmX2 qX2 : Str} {NX2 : Addr} {bsX2 bmX2 : List Value} {snX2 : List Str} {subX2 : List Value} {abX2 : Bool} {colX2 : Option Bool} {ddX2 : Option Addr} {maX2 mbX2 mcX2 mdX2 meX2 : Option Value}
    {nmX3 qX3 : Str} {NX3 : Addr} {bsX3 bmX3 : List Value} {snX3 : List Str} {subX3 : List Value} {abX3 : Bool} {colX3 : Option Bool} {ddX3 : Option Addr} {maX3 mbX3 mcX3 mdX3 meX3 : Option Value}
    {nmX4 qX4 : Str} {NX4 : Addr} {bsX4 bmX4 : List Value} {snX4 : List Str} {subX4 : List Value} {abX4 : Bool} {colX4 : Option Bool} {ddX4 : Option Addr} {maX4 mbX4 mcX4 mdX4 meX4 : Option Value}
    {nmX5 qX5 : Str} {NX5 : Addr} {bsX5 bmX5 : List Value} {snX5 : List Str} {subX5 : List Value} {abX5 : Bool} {colX5 : Option Bool} {ddX5 : Option Addr} {maX5 mbX5 mcX5 mdX5 meX5 : Option Value}
    {nmX6 qX6 : Str} {NX6 : Addr} {bsX6 bmX6 : List Value} {snX6 : List Str} {subX6 : List Value} {abX6 : Bool} {colX6 : Option Bool} {ddX6 : Option Addr} {maX6 mbX6 mcX6 mdX6 meX6 : Option Value}
    {nmX7 qX7 : Str} {NX7 : Addr} {bsX7 bmX7 : List Value} {snX7 : List Str} {subX7 : List Value} {abX7 : Bool} {colX7 : Option Bool} {ddX7 : Option Addr} {maX7 mbX7 mcX7 mdX7 meX7 : Option Value}
    {nmX8 qX8 : Str} {NX8 : Addr} {bsX8 bmX8 : List Value} {snX8 : List Str} {subX8 : List Value} {abX8 : Bool} {colX8 : Option Bool} {ddX8 : Option Addr} {maX8 mbX8 mcX8 mdX8 meX8 : Option Value}
    {nmX9 qX9 : Str} {NX9 : Addr} {bsX9 bmX9 : List Value} {snX9 : List Str} {subX9 : List Value} {abX9 : Bool} {colX9 : Option Bool} {ddX9 : Option Addr} {maX9 mbX9 mcX9 mdX9 meX9 : Option Value}
    {nmX10 qX10 : Str} {NX10 : Addr} {bsX10 bmX10 : List Value} {snX10 : List Str} {subX10 : List Value} {abX10 : Bool} {colX10 : Option Bool} {ddX10 : Option Addr} {maX10 mbX10 mcX10 mdX10 meX10 : Option Value}
    {nmX11 qX11 : Str} {NX11 : Addr} {bsX11 bmX11 : List Value} {snX11 : List Str} {subX11 : List Value} {abX11 : Bool} {colX11 : Option Bool} {ddX11 : Option Addr} {maX11 mbX11 mcX11 mdX11 meX11 : Option Value}
    {nmX12 qX12 : Str} {NX12 : Addr} {bsX12 bmX12 : List Value} {snX12 : List Str} {subX12 : List Value} {abX12 : Bool} {colX12 : Option Bool} {ddX12 : Option Addr} {maX12 mbX12 mcX12 mdX12 meX12 : Option Value}
    {nmX13 qX13 : Str} {NX13 : Addr} {bsX13 bmX13 : List Value} {snX13 : List Str} {subX13 : List Value} {abX13 : Bool} {colX13 : Option Bool} {ddX13 : Option Addr} {maX13 mbX13 mcX13 mdX13 meX13 : Option Value}
    {nmX14 qX14 : Str} {NX14 : Addr} {bsX14 bmX14 : List Value} {snX14 : List Str} {subX14 : List Value} {abX14 : Bool} {colX14 : Option Bool} {ddX14 : Option Addr} {maX14 mbX14 mcX14 mdX14 meX14 : Option Value}
    {nmX15 qX15 : Str} {NX15 : Addr} {bsX15 bmX15 : List Value} {snX15 : List Str} {subX15 : List Value} {abX15 : Bool} {colX15 : Option Bool} {ddX15 : Option Addr} {maX15 mbX15 mcX15 mdX15 meX15 : Option Value}
    {nmX16 qX16 : Str} {NX16 : Addr} {bsX16 bmX16 : List Value} {snX16 : List Str} {subX16 : List Value} {abX16 : Bool} {colX16 : Option Bool} {ddX16 : Option Addr} {maX16 mbX16 mcX16 mdX16 meX16 : Option Value}
    {nmX17 qX17 : Str} {NX17 : Addr} {bsX17 bmX17 : List Value} {snX17 : List Str} {subX17 : List Value} {abX17 : Bool} {colX17 : Option Bool} {ddX17 : Option Addr} {maX17 mbX17 mcX17 mdX17 meX17 : Option Value}
    {nmX18 qX18 : Str} {NX18 : Addr} {bsX18 bmX18 : List Value} {snX18 : List Str} {subX18 : List Value} {abX18 : Bool} {colX18 : Option Bool} {ddX18 : Option Addr} {maX18 mbX18 mcX18 mdX18 meX18 : Option Value}
    {nmX19 qX19 : Str} {NX19 : Addr} {bsX19 bmX19 : List Value} {snX19 : List Str} {subX19 : List Value} {abX19 : Bool} {colX19 : Option Bool} {ddX19 : Option Addr} {maX19 mbX19 mcX19 mdX19 meX19 : Option Value}
    {nmX20 qX20 : Str} {NX20 : Addr} {bsX20 bmX20 : List Value} {snX20 : List Str} {subX20 : List Value} {abX20 : Bool} {colX20 : Option Bool} {ddX20 : Option Addr} {maX20 mbX20 mcX20 mdX20 meX20 : Option Value}
    {nmX21 qX21 : Str} {NX21 : Addr} {bsX21 bmX21 : List Value} {snX21 : List Str} {subX21 : List Value} {abX21 : Bool} {colX21 : Option Bool} {ddX21 : Option Addr} {maX21 mbX21 mcX21 mdX21 meX21 : Option Value}
    {nmX22 qX22 : Str} {NX22 : Addr} {bsX22 bmX22 : List Value} {snX22 : List Str} {subX22 : List Value} {abX22 : Bool} {colX22 : Option Bool} {ddX22 : Option Addr} {maX22 mbX22 mcX22 mdX22 meX22 : Option Value}
    {nmX23 qX23 : Str} {NX23 : Addr} {bsX23 bmX23 : List Value} {snX23 : List Str} {subX23 : List Value} {abX23 : Bool} {colX23 : Option Bool} {ddX23 : Option Addr} {maX23 mbX23 mcX23 mdX23 meX23 : Option Value}
    {nmX24 qX24 : Str} {NX24 : Addr} {bsX24 bmX24 : List Value} {snX24 : List Str} {subX24 : List Value} {abX24 : Bool} {colX24 : Option Bool} {ddX24 : Option Addr} {maX24 mbX24 mcX24 mdX24 meX24 : Option Value}
    {nmX25 qX25 : Str} {NX25 : Addr} {bsX25 bmX25 : List Value} {snX25 : List Str} {subX25 : List Value} {abX25 : Bool} {colX25 : Option Bool} {ddX25 : Option Addr} {maX25 mbX25 mcX25 mdX25 meX25 : Option Value}
    {nmX26 qX26 : Str} {NX26 : Addr} {bsX26 bmX26 : List Value} {snX26 : List Str} {subX26 : List Value} {abX26 : Bool} {colX26 : Option Bool} {ddX26 : Option Addr} {maX26 mbX26 mcX26 mdX26 meX26 : Option Value}
    {nmX27 qX27 : Str} {NX27 : Addr} {bsX27 bmX27 : List Value} {snX27 : List Str} {subX27 : List Value} {abX27 : Bool} {colX27 : Option Bool} {ddX27 : Option Addr} {maX27 mbX27 mcX27 mdX27 meX27 : Option Value}
    {nmX28 qX28 : Str} {NX28 : Addr} {bsX28 bmX28 : List Value} {snX28 : List Str} {subX28 : List Value} {abX28 : Bool} {colX28 : Option Bool} {ddX28 : Option Addr} {maX28 mbX28 mcX28 mdX28 meX28 : Option Value}
    {nmX29 qX29 : Str} {NX29 : Addr} {bsX29 bmX29 : List Value} {snX29 : List Str} {subX29 : List Value} {abX29 : Bool} {colX29 : Option Bool} {ddX29 : Option Addr} {maX29 mbX29 mcX29 mdX29 meX29 : Option Value}
    {nmX30 qX30 : Str} {NX30 : Addr} {bsX30 bmX30 : List Value} {snX30 : List Str} {subX30 : List Value} {abX30 : Bool} {colX30 : Option Bool} {ddX30 : Option Addr} {maX30 mbX30 mcX30 mdX30 meX30 : Option Value}
    {nmX31 qX31 : Str} {NX31 : Addr} {bsX31 bmX31 : List Value} {snX31 : List Str} {subX31 : List Value} {abX31 : Bool} {colX31 : Option Bool} {ddX31 : Option Addr} {maX31 mbX31 mcX31 mdX31 meX31 : Option Value}
    {nmX32 qX32 : Str} {NX32 : Addr} {bsX32 bmX32 : List Value} {snX32 : List Str} {subX32 : List Value} {abX32 : Bool} {colX32 : Option Bool} {ddX32 : Option Addr} {maX32 mbX32 mcX32 mdX32 meX32 : Option Value}
    {nmX33 qX33 : Str} {NX33 : Addr} {bsX33 bmX33 : List Value} {snX33 : List Str} {subX33 : List Value} {abX33 : Bool} {colX33 : Option Bool} {ddX33 : Option Addr} {maX33 mbX33 mcX33 mdX33 meX33 : Option Value}
    (af0 : PySem.W.nsIn K mainGlobals "_law_is_kept" = some (some (.ref f0)))
    (lf0 : K.lookup f0 = some ⟨ocf0, odf0, .func (PySem.W.fnOf "_law_is_kept" "_law_is_kept" (defArgs t__law_is_kept) (defBody t__law_is_kept) (defScope t__law_is_kept) .none kVf0 dcf0 pmf0 anf0 cdf0 ctf0), slf0⟩)
    (cf0 : PySem.W.codeIn K cdf0 "_law_is_kept" = true)
    (kf0 : PySem.W.keepIn K (.ref f0) = true)
    (af1 : PySem.W.nsIn K mainGlobals "_law_made" = some (some (.ref f1)))
    (lf1 : K.lookup f1 = some ⟨ocf1, odf1, .func (PySem.W.fnOf "_law_made" "_law_made" (defArgs t__law_made) (defBody t__law_made) (defScope t__law_made) .none kVf1 dcf1 pmf1 anf1 cdf1 ctf1), slf1⟩)
    (cf1 : PySem.W.codeIn K cdf1 "_law_made" = true)
    (kf1 : PySem.W.keepIn K (.ref f1) = true)
    (af2 : PySem.W.nsIn K mainGlobals "_law_marked" = some (some (.ref f2)))
    (lf2 : K.lookup f2 = some ⟨ocf2, odf2, .func (PySem.W.fnOf "_law_marked" "_law_marked" (defArgs t__law_marked) (defBody t__law_marked) (defScope t__law_marked) .none kVf2 dcf2 pmf2 anf2 cdf2 ctf2), slf2⟩)
    (cf2 : PySem.W.codeIn K cdf2 "_law_marked" = true)
    (kf2 : PySem.W.keepIn K (.ref f2) = true)
    (af3 : PySem.W.nsIn K mainGlobals "law" = some (some (.ref f3)))
    (lf3 : K.lookup f3 = some ⟨ocf3, odf3, .func (PySem.W.fnOf "law" "law" (defArgs t_law) (defBody t_law) (defScope t_law) .none kVf3 dcf3 pmf3 anf3 cdf3 ctf3), slf3⟩)
    (cf3 : PySem.W.codeIn K cdf3 "law" = true)
    (kf3 : PySem.W.keepIn K (.ref f3) = true)
    (aX0 : PySem.W.nsIn K mainGlobals "BoxError" = some (some (.ref X0)))
    (aX1 : PySem.W.nsIn K mainGlobals "BadStep" = some (some (.ref X1)))
    (aX2 : PySem.W.nsIn K mainGlobals "NoPlace" = some (some (.ref X2)))
    (aX3 : PySem.W.nsIn K mainGlobals "Uneven" = some (some (.ref X3)))
    (aX4 : PySem.W.nsIn K mainGlobals "BadBox" = some (some (.ref X4)))
    (aX5 : PySem.W.nsIn K mainGlobals "BadMove" = some (some (.ref X5)))
    (aX6 : PySem.W.nsIn K mainGlobals "BadStanding" = some (some (.ref X6)))
    (aX7 : PySem.W.nsIn K mainGlobals "BadRecord" = some (some (.ref X7)))
    (aX8 : PySem.W.nsIn K mainGlobals "NoStep" = some (some (.ref X8)))
    (aX9 : PySem.W.nsIn K mainGlobals "TooMany" = some (some (.ref X9)))
    (aX10 : PySem.W.nsIn K mainGlobals "Heavy" = some (some (.ref X10)))
    (aX11 : PySem.W.nsIn K mainGlobals "Wide" = some (some (.ref X11)))
    (aX12 : PySem.W.nsIn K mainGlobals "OtherLines" = some (some (.ref X12)))
    (aX13 : PySem.W.nsIn K mainGlobals "BadMoves" = some (some (.ref X13)))
    (aX14 : PySem.W.nsIn K mainGlobals "BadGiven" = some (some (.ref X14)))
    (aX15 : PySem.W.nsIn K mainGlobals "NoPart" = some (some (.ref X15)))
    (aX16 : PySem.W.nsIn K mainGlobals "BadNet" = some (some (.ref X16)))
    (aX17 : PySem.W.nsIn K mainGlobals "BadWish" = some (some (.ref X17)))
    (aX18 : PySem.W.nsIn K mainGlobals "BadNumber" = some (some (.ref X18)))
    (aX19 : PySem.W.nsIn K mainGlobals "Chooses" = some (some (.ref X19)))
    (aX20 : PySem.W.nsIn K mainGlobals "BadInputs" = some (some (.ref X20)))
    (aX21 : PySem.W.nsIn K mainGlobals "NoBox" = some (some (.ref X21)))
    (aX22 : PySem.W.nsIn K mainGlobals "BadSeen" = some (some (.ref X22)))
    (aX23 : PySem.W.nsIn K mainGlobals "BadBoxes" = some (some (.ref X23)))
    (aX24 : PySem.W.nsIn K mainGlobals "BadOffers" = some (some (.ref X24)))
    (aX25 : PySem.W.nsIn K mainGlobals "NotFirst" = some (some (.ref X25)))
    (aX26 : PySem.W.nsIn K mainGlobals "NotNow" = some (some (.ref X26)))
    (aX27 : PySem.W.nsIn K mainGlobals "BadWorth" = some (some (.ref X27)))
    (aX28 : PySem.W.nsIn K mainGlobals "NoLine" = some (some (.ref X28)))
    (aX29 : PySem.W.nsIn K mainGlobals "BadJournal" = some (some (.ref X29)))
    (aX30 : PySem.W.nsIn K mainGlobals "NoTrial" = some (some (.ref X30)))
    (aX31 : PySem.W.nsIn K mainGlobals "NothingToRedo" = some (some (.ref X31)))
    (aX32 : PySem.W.nsIn K mainGlobals "NothingToUndo" = some (some (.ref X32)))
    (aX33 : PySem.W.nsIn K mainGlobals "BadLine" = some (some (.ref X33)))
    (ist : PySem.W.nsIn K PySem.cStatics "thirdparty.any" = some none)
    (itop : (l.prog.main.scope.names.lookup ("super" : Str)).isSome = false)
    (aI : PySem.W.findIn K (.ref X0) "__init__" = some (some (.ref fI)))
    (ity : PySem.W.typeIn K (.ref fI) = some (.type "function"))
    (il : K.lookup fI = some ⟨ocI, odI, .func (PySem.W.ksFn "__init__" "BoxError.__init__" (defArgs t_ini) (defBody t_ini) (defScope t_ini) .none kVI dcI pmI anI (.ref cda) ctI cci), slI⟩)
    (ic : PySem.W.codeIn K (.ref cda) "BoxError.__init__" = true)
    (ica : K.lookup cda = some ⟨cclI, cddI, .fields vsI, ccsI⟩)
    (iv : vsI[2]? = some (.str fileI tfI))
    (ifl : ((l.prog.main.file : Str) == fileI) = true)
    (icc : K.lookup cci = some ⟨clI, cldI, .cell (some (.ref XD)), cslI⟩)
    (icd : PySem.W.clsIn K XD = some cdDI)
    (isu : PySem.W.nsIn K mainGlobals "super" = some none)
    (xhn : PySem.W.specialIn K (.builtin "object.__class__") "__get__" = some (some (.builtin "getset_descriptor.__get__")))
    (xht : PySem.W.takesIn K (.builtin "object.__class__") = some true)
    (lX0 : K.lookup X0 = some (excClassObj nmX0 qX0 X0 NX0 bsX0 bmX0 true snX0 subX0 abX0 colX0 ddX0 maX0 mbX0 mcX0 mdX0 meX0 "ValueError.__new__"))
    (rvX0 : PySem.HandSPX.refsVE bmX0 = true)
    (saX0 : PySem.W.findIn K (.ref X0) "__setattr__" = some (some (.builtin "object.__setattr__")))
    (beX0 : PySem.W.subIn K (.ref X0) (.type "BaseException") = some true)
    (tyX0 : PySem.W.typeIn K (.ref X0) = some (.type "type"))
    (kcX0 : PySem.W.keepIn K (.ref X0) = true)
    (veX0 : PySem.W.subIn K (.ref X0) (.type "ValueError") = some true)
    (noX0 : PySem.W.findIn K (.ref X0) "value" = some none)
    (mrX0 : PySem.W.mroIn K X0 (.ref XD) = some true)
    (suX0 : PySem.W.ks_superIn K X0 XD "__init__" = some (some (.builtin "ValueError.__init__")))
    (gaX0 : PySem.W.findIn K (.ref X0) "__getattribute__" = some (some (.builtin "BaseException.__getattribute__")))
    (ggX0 : PySem.W.findIn K (.ref X0) "__getattr__" = some none)
    (hdX0 : PySem.W.hasDictIn K X0 = true)
    (clX0 : PySem.W.findIn K (.ref X0) "__class__" = some (some (.builtin "object.__class__")))
    (obX0 : PySem.W.mroIn K X0 (.type "object") = some true)
    (lX1 : K.lookup X1 = some (excClassObj nmX1 qX1 X1 NX1 bsX1 bmX1 true snX1 subX1 abX1 colX1 ddX1 maX1 mbX1 mcX1 mdX1 meX1 "ValueError.__new__"))
    (rvX1 : PySem.HandSPX.refsVE bmX1 = true)
    (saX1 : PySem.W.findIn K (.ref X1) "__setattr__" = some (some (.builtin "object.__setattr__")))
    (beX1 : PySem.W.subIn K (.ref X1) (.type "BaseException") = some true)
    (tyX1 : PySem.W.typeIn K (.ref X1) = some (.type "type"))
    (kcX1 : PySem.W.keepIn K (.ref X1) = true)
    (veX1 : PySem.W.subIn K (.ref X1) (.type "ValueError") = some true)
    (noX1 : PySem.W.findIn K (.ref X1) "value" = some none)
    (iiX1 : PySem.W.findIn K (.ref X1) "__init__" = some (some (.ref fI)))
    (mrX1 : PySem.W.mroIn K X1 (.ref XD) = some true)
    (suX1 : PySem.W.ks_superIn K X1 XD "__init__" = some (some (.builtin "ValueError.__init__")))
    (gaX1 : PySem.W.findIn K (.ref X1) "__getattribute__" = some (some (.builtin "BaseException.__getattribute__")))
    (ggX1 : PySem.W.findIn K (.ref X1) "__getattr__" = some none)
    (hdX1 : PySem.W.hasDictIn K X1 = true)
    (clX1 : PySem.W.findIn K (.ref X1) "__class__" = some (some (.builtin "object.__class__")))
    (obX1 : PySem.W.mroIn K X1 (.type "object") = some true)
    (lX2 : K.lookup X2 = some (excClassObj nmX2 qX2 X2 NX2 bsX2 bmX2 true snX2 subX2 abX2 colX2 ddX2 maX2 mbX2 mcX2 mdX2 meX2 "ValueError.__new__"))
    (rvX2 : PySem.HandSPX.refsVE bmX2 = true)
    (saX2 : PySem.W.findIn K (.ref X2) "__setattr__" = some (some (.builtin "object.__setattr__")))
    (beX2 : PySem.W.subIn K (.ref X2) (.type "BaseException") = some true)
    (tyX2 : PySem.W.typeIn K (.ref X2) = some (.type "type"))
    (kcX2 : PySem.W.keepIn K (.ref X2) = true)
    (veX2 : PySem.W.subIn K (.ref X2) (.type "ValueError") = some true)
    (noX2 : PySem.W.findIn K (.ref X2) "value" = some none)
    (iiX2 : PySem.W.findIn K (.ref X2) "__init__" = some (some (.ref fI)))
    (mrX2 : PySem.W.mroIn K X2 (.ref XD) = some true)
    (suX2 : PySem.W.ks_superIn K X2 XD "__init__" = some (some (.builtin "ValueError.__init__")))
    (gaX2 : PySem.W.findIn K (.ref X2) "__getattribute__" = some (some (.builtin "BaseException.__getattribute__")))
    (ggX2 : PySem.W.findIn K (.ref X2) "__getattr__" = some none)
    (hdX2 : PySem.W.hasDictIn K X2 = true)
    (clX2 : PySem.W.findIn K (.ref X2) "__class__" = some (some (.builtin "object.__class__")))
    (obX2 : PySem.W.mroIn K X2 (.type "object") = some true)
    (lX3 : K.lookup X3 = some (excClassObj nmX3 qX3 X3 NX3 bsX3 bmX3 true snX3 subX3 abX3 colX3 ddX3 maX3 mbX3 mcX3 mdX3 meX3 "ValueError.__new__"))
    (rvX3 : PySem.HandSPX.refsVE bmX3 = true)
    (saX3 : PySem.W.findIn K (.ref X3) "__setattr__" = some (some (.builtin "object.__setattr__")))
    (beX3 : PySem.W.subIn K (.ref X3) (.type "BaseException") = some true)
    (tyX3 : PySem.W.typeIn K (.ref X3) = some (.type "type"))
    (kcX3 : PySem.W.keepIn K (.ref X3) = true)
    (veX3 : PySem.W.subIn K (.ref X3) (.type "ValueError") = some true)
    (noX3 : PySem.W.findIn K (.ref X3) "value" = some none)
    (iiX3 : PySem.W.findIn K (.ref X3) "__init__" = some (some (.ref fI)))
    (mrX3 : PySem.W.mroIn K X3 (.ref XD) = some true)
    (suX3 : PySem.W.ks_superIn K X3 XD "__init__" = some (some (.builtin "ValueError.__init__")))
    (gaX3 : PySem.W.findIn K (.ref X3) "__getattribute__" = some (some (.builtin "BaseException.__getattribute__")))
    (ggX3 : PySem.W.findIn K (.ref X3) "__getattr__" = some none)
    (hdX3 : PySem.W.hasDictIn K X3 = true)
    (clX3 : PySem.W.findIn K (.ref X3) "__class__" = some (some (.builtin "object.__class__")))
    (obX3 : PySem.W.mroIn K X3 (.type "object") = some true)
    (lX4 : K.lookup X4 = some (excClassObj nmX4 qX4 X4 NX4 bsX4 bmX4 true snX4 subX4 abX4 colX4 ddX4 maX4 mbX4 mcX4 mdX4 meX4 "ValueError.__new__"))
    (rvX4 : PySem.HandSPX.refsVE bmX4 = true)
    (saX4 : PySem.W.findIn K (.ref X4) "__setattr__" = some (some (.builtin "object.__setattr__")))
    (beX4 : PySem.W.subIn K (.ref X4) (.type "BaseException") = some true)
    (tyX4 : PySem.W.typeIn K (.ref X4) = some (.type "type"))
    (kcX4 : PySem.W.keepIn K (.ref X4) = true)
    (veX4 : PySem.W.subIn K (.ref X4) (.type "ValueError") = some true)
    (noX4 : PySem.W.findIn K (.ref X4) "value" = some none)
    (iiX4 : PySem.W.findIn K (.ref X4) "__init__" = some (some (.ref fI)))
    (mrX4 : PySem.W.mroIn K X4 (.ref XD) = some true)
    (suX4 : PySem.W.ks_superIn K X4 XD "__init__" = some (some (.builtin "ValueError.__init__")))
    (gaX4 : PySem.W.findIn K (.ref X4) "__getattribute__" = some (some (.builtin "BaseException.__getattribute__")))
    (ggX4 : PySem.W.findIn K (.ref X4) "__getattr__" = some none)
    (hdX4 : PySem.W.hasDictIn K X4 = true)
    (clX4 : PySem.W.findIn K (.ref X4) "__class__" = some (some (.builtin "object.__class__")))
    (obX4 : PySem.W.mroIn K X4 (.type "object") = some true)
    (lX5 : K.lookup X5 = some (excClassObj nmX5 qX5 X5 NX5 bsX5 bmX5 true snX5 subX5 abX5 colX5 ddX5 maX5 mbX5 mcX5 mdX5 meX5 "ValueError.__new__"))
    (rvX5 : PySem.HandSPX.refsVE bmX5 = true)
    (saX5 : PySem.W.findIn K (.ref X5) "__setattr__" = some (some (.builtin "object.__setattr__")))
    (beX5 : PySem.W.subIn K (.ref X5) (.type "BaseException") = some true)
    (tyX5 : PySem.W.typeIn K (.ref X5) = some (.type "type"))
    (kcX5 : PySem.W.keepIn K (.ref X5) = true)
    (veX5 : PySem.W.subIn K (.ref X5) (.type "ValueError") = some true)
    (noX5 : PySem.W.findIn K (.ref X5) "value" = some none)
    (iiX5 : PySem.W.findIn K (.ref X5) "__init__" = some (some (.ref fI)))
    (mrX5 : PySem.W.mroIn K X5 (.ref XD) = some true)
    (suX5 : PySem.W.ks_superIn K X5 XD "__init__" = some (some (.builtin "ValueError.__init__")))
    (gaX5 : PySem.W.findIn K (.ref X5) "__getattribute__" = some (some (.builtin "BaseException.__getattribute__")))
    (ggX5 : PySem.W.findIn K (.ref X5) "__getattr__" = some none)
    (hdX5 : PySem.W.hasDictIn K X5 = true)
    (clX5 : PySem.W.findIn K (.ref X5) "__class__" = some (some (.builtin "object.__class__")))
    (obX5 : PySem.W.mroIn K X5 (.type "object") = some true)
    (lX6 : K.lookup X6 = some (excClassObj nmX6 qX6 X6 NX6 bsX6 bmX6 true snX6 subX6 abX6 colX6 ddX6 maX6 mbX6 mcX6 mdX6 meX6 "ValueError.__new__"))
    (rvX6 : PySem.HandSPX.refsVE bmX6 = true)
    (saX6 : PySem.W.findIn K (.ref X6) "__setattr__" = some (some (.builtin "object.__setattr__")))
    (beX6 : PySem.W.subIn K (.ref X6) (.type "BaseException") = some true)
    (tyX6 : PySem.W.typeIn K (.ref X6) = some (.type "type"))
    (kcX6 : PySem.W.keepIn K (.ref X6) = true)
    (veX6 : PySem.W.subIn K (.ref X6) (.type "ValueError") = some true)
    (noX6 : PySem.W.findIn K (.ref X6) "value" = some none)
    (iiX6 : PySem.W.findIn K (.ref X6) "__init__" = some (some (.ref fI)))
    (mrX6 : PySem.W.mroIn K X6 (.ref XD) = some true)
    (suX6 : PySem.W.ks_superIn K X6 XD "__init__" = some (some (.builtin "ValueError.__init__")))
    (gaX6 : PySem.W.findIn K (.ref X6) "__getattribute__" = some (some (.builtin "BaseException.__getattribute__")))
    (ggX6 : PySem.W.findIn K (.ref X6) "__getattr__" = some none)
    (hdX6 : PySem.W.hasDictIn K X6 = true)
    (clX6 : PySem.W.findIn K (.ref X6) "__class__" = some (some (.builtin "object.__class__")))
    (obX6 : PySem.W.mroIn K X6 (.type "object") = some true)
    (lX7 : K.lookup X7 = some (excClassObj nmX7 qX7 X7 NX7 bsX7 bmX7 true snX7 subX7 abX7 colX7 ddX7 maX7 mbX7 mcX7 mdX7 meX7 "ValueError.__new__"))
    (rvX7 : PySem.HandSPX.refsVE bmX7 = true)
    (saX7 : PySem.W.findIn K (.ref X7) "__setattr__" = some (some (.builtin "object.__setattr__")))
    (beX7 : PySem.W.subIn K (.ref X7) (.type "BaseException") = some true)
    (tyX7 : PySem.W.typeIn K (.ref X7) = some (.type "type"))
    (kcX7 : PySem.W.keepIn K (.ref X7) = true)
    (veX7 : PySem.W.subIn K (.ref X7) (.type "ValueError") = some true)
    (noX7 : PySem.W.findIn K (.ref X7) "value" = some none)
    (iiX7 : PySem.W.findIn K (.ref X7) "__init__" = some (some (.ref fI)))
    (mrX7 : PySem.W.mroIn K X7 (.ref XD) = some true)
    (suX7 : PySem.W.ks_superIn K X7 XD "__init__" = some (some (.builtin "ValueError.__init__")))
    (gaX7 : PySem.W.findIn K (.ref X7) "__getattribute__" = some (some (.builtin "BaseException.__getattribute__")))
    (ggX7 : PySem.W.findIn K (.ref X7) "__getattr__" = some none)
    (hdX7 : PySem.W.hasDictIn K X7 = true)
    (clX7 : PySem.W.findIn K (.ref X7) "__class__" = some (some (.builtin "object.__class__")))
    (obX7 : PySem.W.mroIn K X7 (.type "object") = some true)
    (lX8 : K.lookup X8 = some (excClassObj nmX8 qX8 X8 NX8 bsX8 bmX8 true snX8 subX8 abX8 colX8 ddX8 maX8 mbX8 mcX8 mdX8 meX8 "ValueError.__new__"))
    (rvX8 : PySem.HandSPX.refsVE bmX8 = true)
    (saX8 : PySem.W.findIn K (.ref X8) "__setattr__" = some (some (.builtin "object.__setattr__")))
    (beX8 : PySem.W.subIn K (.ref X8) (.type "BaseException") = some true)
    (tyX8 : PySem.W.typeIn K (.ref X8) = some (.type "type"))
    (kcX8 : PySem.W.keepIn K (.ref X8) = true)
    (veX8 : PySem.W.subIn K (.ref X8) (.type "ValueError") = some true)
    (noX8 : PySem.W.findIn K (.ref X8) "value" = some none)
    (iiX8 : PySem.W.findIn K (.ref X8) "__init__" = some (some (.ref fI)))
    (mrX8 : PySem.W.mroIn K X8 (.ref XD) = some true)
    (suX8 : PySem.W.ks_superIn K X8 XD "__init__" = some (some (.builtin "ValueError.__init__")))
    (gaX8 : PySem.W.findIn K (.ref X8) "__getattribute__" = some (some (.builtin "BaseException.__getattribute__")))
    (ggX8 : PySem.W.findIn K (.ref X8) "__getattr__" = some none)
    (hdX8 : PySem.W.hasDictIn K X8 = true)
    (clX8 : PySem.W.findIn K (.ref X8) "__class__" = some (some (.builtin "object.__class__")))
    (obX8 : PySem.W.mroIn K X8 (.type "object") = some true)
    (lX9 : K.lookup X9 = some (excClassObj nmX9 qX9 X9 NX9 bsX9 bmX9 true snX9 subX9 abX9 colX9 ddX9 maX9 mbX9 mcX9 mdX9 meX9 "ValueError.__new__"))
    (rvX9 : PySem.HandSPX.refsVE bmX9 = true)
    (saX9 : PySem.W.findIn K (.ref X9) "__setattr__" = some (some (.builtin "object.__setattr__")))
    (beX9 : PySem.W.subIn K (.ref X9) (.type "BaseException") = some true)
    (tyX9 : PySem.W.typeIn K (.ref X9) = some (.type "type"))
    (kcX9 : PySem.W.keepIn K (.ref X9) = true)
    (veX9 : PySem.W.subIn K (.ref X9) (.type "ValueError") = some true)
    (noX9 : PySem.W.findIn K (.ref X9) "value" = some none)
    (iiX9 : PySem.W.findIn K (.ref X9) "__init__" = some (some (.ref fI)))
    (mrX9 : PySem.W.mroIn K X9 (.ref XD) = some true)
    (suX9 : PySem.W.ks_superIn K X9 XD "__init__" = some (some (.builtin "ValueError.__init__")))
    (gaX9 : PySem.W.findIn K (.ref X9) "__getattribute__" = some (some (.builtin "BaseException.__getattribute__")))
    (ggX9 : PySem.W.findIn K (.ref X9) "__getattr__" = some none)
    (hdX9 : PySem.W.hasDictIn K X9 = true)
    (clX9 : PySem.W.findIn K (.ref X9) "__class__" = some (some (.builtin "object.__class__")))
    (obX9 : PySem.W.mroIn K X9 (.type "object") = some true)
    (lX10 : K.lookup X10 = some (excClassObj nmX10 qX10 X10 NX10 bsX10 bmX10 true snX10 subX10 abX10 colX10 ddX10 maX10 mbX10 mcX10 mdX10 meX10 "ValueError.__new__"))
    (rvX10 : PySem.HandSPX.refsVE bmX10 = true)
    (saX10 : PySem.W.findIn K (.ref X10) "__setattr__" = some (some (.builtin "object.__setattr__")))
    (beX10 : PySem.W.subIn K (.ref X10) (.type "BaseException") = some true)
    (tyX10 : PySem.W.typeIn K (.ref X10) = some (.type "type"))
    (kcX10 : PySem.W.keepIn K (.ref X10) = true)
    (veX10 : PySem.W.subIn K (.ref X10) (.type "ValueError") = some true)
    (noX10 : PySem.W.findIn K (.ref X10) "value" = some none)
    (iiX10 : PySem.W.findIn K (.ref X10) "__init__" = some (some (.ref fI)))
    (mrX10 : PySem.W.mroIn K X10 (.ref XD) = some true)
    (suX10 : PySem.W.ks_superIn K X10 XD "__init__" = some (some (.builtin "ValueError.__init__")))
    (gaX10 : PySem.W.findIn K (.ref X10) "__getattribute__" = some (some (.builtin "BaseException.__getattribute__")))
    (ggX10 : PySem.W.findIn K (.ref X10) "__getattr__" = some none)
    (hdX10 : PySem.W.hasDictIn K X10 = true)
    (clX10 : PySem.W.findIn K (.ref X10) "__class__" = some (some (.builtin "object.__class__")))
    (obX10 : PySem.W.mroIn K X10 (.type "object") = some true)
    (lX11 : K.lookup X11 = some (excClassObj nmX11 qX11 X11 NX11 bsX11 bmX11 true snX11 subX11 abX11 colX11 ddX11 maX11 mbX11 mcX11 mdX11 meX11 "ValueError.__new__"))
    (rvX11 : PySem.HandSPX.refsVE bmX11 = true)
    (saX11 : PySem.W.findIn K (.ref X11) "__setattr__" = some (some (.builtin "object.__setattr__")))
    (beX11 : PySem.W.subIn K (.ref X11) (.type "BaseException") = some true)
    (tyX11 : PySem.W.typeIn K (.ref X11) = some (.type "type"))
    (kcX11 : PySem.W.keepIn K (.ref X11) = true)
    (veX11 : PySem.W.subIn K (.ref X11) (.type "ValueError") = some true)
    (noX11 : PySem.W.findIn K (.ref X11) "value" = some none)
    (iiX11 : PySem.W.findIn K (.ref X11) "__init__" = some (some (.ref fI)))
    (mrX11 : PySem.W.mroIn K X11 (.ref XD) = some true)
    (suX11 : PySem.W.ks_superIn K X11 XD "__init__" = some (some (.builtin "ValueError.__init__")))
    (gaX11 : PySem.W.findIn K (.ref X11) "__getattribute__" = some (some (.builtin "BaseException.__getattribute__")))
    (ggX11 : PySem.W.findIn K (.ref X11) "__getattr__" = some none)
    (hdX11 : PySem.W.hasDictIn K X11 = true)
    (clX11 : PySem.W.findIn K (.ref X11) "__class__" = some (some (.builtin "object.__class__")))
    (obX11 : PySem.W.mroIn K X11 (.type "object") = some true)
    (lX12 : K.lookup X12 = some (excClassObj nmX12 qX12 X12 NX12 bsX12 bmX12 true snX12 subX12 abX12 colX12 ddX12 maX12 mbX12 mcX12 mdX12 meX12 "ValueError.__new__"))
    (rvX12 : PySem.HandSPX.refsVE bmX12 = true)
    (saX12 : PySem.W.findIn K (.ref X12) "__setattr__" = some (some (.builtin "object.__setattr__")))
    (beX12 : PySem.W.subIn K (.ref X12) (.type "BaseException") = some true)
    (tyX12 : PySem.W.typeIn K (.ref X12) = some (.type "type"))
    (kcX12 : PySem.W.keepIn K (.ref X12) = true)
    (veX12 : PySem.W.subIn K (.ref X12) (.type "ValueError") = some true)
    (noX12 : PySem.W.findIn K (.ref X12) "value" = some none)
    (iiX12 : PySem.W.findIn K (.ref X12) "__init__" = some (some (.ref fI)))
    (mrX12 : PySem.W.mroIn K X12 (.ref XD) = some true)
    (suX12 : PySem.W.ks_superIn K X12 XD "__init__" = some (some (.builtin "ValueError.__init__")))
    (gaX12 : PySem.W.findIn K (.ref X12) "__getattribute__" = some (some (.builtin "BaseException.__getattribute__")))
    (ggX12 : PySem.W.findIn K (.ref X12) "__getattr__" = some none)
    (hdX12 : PySem.W.hasDictIn K X12 = true)
    (clX12 : PySem.W.findIn K (.ref X12) "__class__" = some (some (.builtin "object.__class__")))
    (obX12 : PySem.W.mroIn K X12 (.type "object") = some true)
    (lX13 : K.lookup X13 = some (excClassObj nmX13 qX13 X13 NX13 bsX13 bmX13 true snX13 subX13 abX13 colX13 ddX13 maX13 mbX13 mcX13 mdX13 meX13 "ValueError.__new__"))
    (rvX13 : PySem.HandSPX.refsVE bmX13 = true)
    (saX13 : PySem.W.findIn K (.ref X13) "__setattr__" = some (some (.builtin "object.__setattr__")))
    (beX13 : PySem.W.subIn K (.ref X13) (.type "BaseException") = some true)
    (tyX13 : PySem.W.typeIn K (.ref X13) = some (.type "type"))
    (kcX13 : PySem.W.keepIn K (.ref X13) = true)
    (veX13 : PySem.W.subIn K (.ref X13) (.type "ValueError") = some true)
    (noX13 : PySem.W.findIn K (.ref X13) "value" = some none)
    (iiX13 : PySem.W.findIn K (.ref X13) "__init__" = some (some (.ref fI)))
    (mrX13 : PySem.W.mroIn K X13 (.ref XD) = some true)
    (suX13 : PySem.W.ks_superIn K X13 XD "__init__" = some (some (.builtin "ValueError.__init__")))
    (gaX13 : PySem.W.findIn K (.ref X13) "__getattribute__" = some (some (.builtin "BaseException.__getattribute__")))
    (ggX13 : PySem.W.findIn K (.ref X13) "__getattr__" = some none)
    (hdX13 : PySem.W.hasDictIn K X13 = true)
    (clX13 : PySem.W.findIn K (.ref X13) "__class__" = some (some (.builtin "object.__class__")))
    (obX13 : PySem.W.mroIn K X13 (.type "object") = some true)
    (lX14 : K.lookup X14 = some (excClassObj nmX14 qX14 X14 NX14 bsX14 bmX14 true snX14 subX14 abX14 colX14 ddX14 maX14 mbX14 mcX14 mdX14 meX14 "ValueError.__new__"))
    (rvX14 : PySem.HandSPX.refsVE bmX14 = true)
    (saX14 : PySem.W.findIn K (.ref X14) "__setattr__" = some (some (.builtin "object.__setattr__")))
    (beX14 : PySem.W.subIn K (.ref X14) (.type "BaseException") = some true)
    (tyX14 : PySem.W.typeIn K (.ref X14) = some (.type "type"))
    (kcX14 : PySem.W.keepIn K (.ref X14) = true)
    (veX14 : PySem.W.subIn K (.ref X14) (.type "ValueError") = some true)
    (noX14 : PySem.W.findIn K (.ref X14) "value" = some none)
    (iiX14 : PySem.W.findIn K (.ref X14) "__init__" = some (some (.ref fI)))
    (mrX14 : PySem.W.mroIn K X14 (.ref XD) = some true)
    (suX14 : PySem.W.ks_superIn K X14 XD "__init__" = some (some (.builtin "ValueError.__init__")))
    (gaX14 : PySem.W.findIn K (.ref X14) "__getattribute__" = some (some (.builtin "BaseException.__getattribute__")))
    (ggX14 : PySem.W.findIn K (.ref X14) "__getattr__" = some none)
    (hdX14 : PySem.W.hasDictIn K X14 = true)
    (clX14 : PySem.W.findIn K (.ref X14) "__class__" = some (some (.builtin "object.__class__")))
    (obX14 : PySem.W.mroIn K X14 (.type "object") = some true)
    (lX15 : K.lookup X15 = some (excClassObj nmX15 qX15 X15 NX15 bsX15 bmX15 true snX15 subX15 abX15 colX15 ddX15 maX15 mbX15 mcX15 mdX15 meX15 "ValueError.__new__"))
    (rvX15 : PySem.HandSPX.refsVE bmX15 = true)
    (saX15 : PySem.W.findIn K (.ref X15) "__setattr__" = some (some (.builtin "object.__setattr__")))
    (beX15 : PySem.W.subIn K (.ref X15) (.type "BaseException") = some true)
    (tyX15 : PySem.W.typeIn K (.ref X15) = some (.type "type"))
    (kcX15 : PySem.W.keepIn K (.ref X15) = true)
    (veX15 : PySem.W.subIn K (.ref X15) (.type "ValueError") = some true)
    (noX15 : PySem.W.findIn K (.ref X15) "value" = some none)
    (iiX15 : PySem.W.findIn K (.ref X15) "__init__" = some (some (.ref fI)))
    (mrX15 : PySem.W.mroIn K X15 (.ref XD) = some true)
    (suX15 : PySem.W.ks_superIn K X15 XD "__init__" = some (some (.builtin "ValueError.__init__")))
    (gaX15 : PySem.W.findIn K (.ref X15) "__getattribute__" = some (some (.builtin "BaseException.__getattribute__")))
    (ggX15 : PySem.W.findIn K (.ref X15) "__getattr__" = some none)
    (hdX15 : PySem.W.hasDictIn K X15 = true)
    (clX15 : PySem.W.findIn K (.ref X15) "__class__" = some (some (.builtin "object.__class__")))
    (obX15 : PySem.W.mroIn K X15 (.type "object") = some true)
    (lX16 : K.lookup X16 = some (excClassObj nmX16 qX16 X16 NX16 bsX16 bmX16 true snX16 subX16 abX16 colX16 ddX16 maX16 mbX16 mcX16 mdX16 meX16 "ValueError.__new__"))
    (rvX16 : PySem.HandSPX.refsVE bmX16 = true)
    (saX16 : PySem.W.findIn K (.ref X16) "__setattr__" = some (some (.builtin "object.__setattr__")))
    (beX16 : PySem.W.subIn K (.ref X16) (.type "BaseException") = some true)
    (tyX16 : PySem.W.typeIn K (.ref X16) = some (.type "type"))
    (kcX16 : PySem.W.keepIn K (.ref X16) = true)
    (veX16 : PySem.W.subIn K (.ref X16) (.type "ValueError") = some true)
    (noX16 : PySem.W.findIn K (.ref X16) "value" = some none)
    (iiX16 : PySem.W.findIn K (.ref X16) "__init__" = some (some (.ref fI)))
    (mrX16 : PySem.W.mroIn K X16 (.ref XD) = some true)
    (suX16 : PySem.W.ks_superIn K X16 XD "__init__" = some (some (.builtin "ValueError.__init__")))
    (gaX16 : PySem.W.findIn K (.ref X16) "__getattribute__" = some (some (.builtin "BaseException.__getattribute__")))
    (ggX16 : PySem.W.findIn K (.ref X16) "__getattr__" = some none)
    (hdX16 : PySem.W.hasDictIn K X16 = true)
    (clX16 : PySem.W.findIn K (.ref X16) "__class__" = some (some (.builtin "object.__class__")))
    (obX16 : PySem.W.mroIn K X16 (.type "object") = some true)
    (lX17 : K.lookup X17 = some (excClassObj nmX17 qX17 X17 NX17 bsX17 bmX17 true snX17 subX17 abX17 colX17 ddX17 maX17 mbX17 mcX17 mdX17 meX17 "ValueError.__new__"))
    (rvX17 : PySem.HandSPX.refsVE bmX17 = true)
    (saX17 : PySem.W.findIn K (.ref X17) "__setattr__" = some (some (.builtin "object.__setattr__")))
    (beX17 : PySem.W.subIn K (.ref X17) (.type "BaseException") = some true)
    (tyX17 : PySem.W.typeIn K (.ref X17) = some (.type "type"))
    (kcX17 : PySem.W.keepIn K (.ref X17) = true)
    (veX17 : PySem.W.subIn K (.ref X17) (.type "ValueError") = some true)
    (noX17 : PySem.W.findIn K (.ref X17) "value" = some none)
    (iiX17 : PySem.W.findIn K (.ref X17) "__init__" = some (some (.ref fI)))
    (mrX17 : PySem.W.mroIn K X17 (.ref XD) = some true)
    (suX17 : PySem.W.ks_superIn K X17 XD "__init__" = some (some (.builtin "ValueError.__init__")))
    (gaX17 : PySem.W.findIn K (.ref X17) "__getattribute__" = some (some (.builtin "BaseException.__getattribute__")))
    (ggX17 : PySem.W.findIn K (.ref X17) "__getattr__" = some none)
    (hdX17 : PySem.W.hasDictIn K X17 = true)
    (clX17 : PySem.W.findIn K (.ref X17) "__class__" = some (some (.builtin "object.__class__")))
    (obX17 : PySem.W.mroIn K X17 (.type "object") = some true)
    (lX18 : K.lookup X18 = some (excClassObj nmX18 qX18 X18 NX18 bsX18 bmX18 true snX18 subX18 abX18 colX18 ddX18 maX18 mbX18 mcX18 mdX18 meX18 "ValueError.__new__"))
    (rvX18 : PySem.HandSPX.refsVE bmX18 = true)
    (saX18 : PySem.W.findIn K (.ref X18) "__setattr__" = some (some (.builtin "object.__setattr__")))
    (beX18 : PySem.W.subIn K (.ref X18) (.type "BaseException") = some true)
    (tyX18 : PySem.W.typeIn K (.ref X18) = some (.type "type"))
    (kcX18 : PySem.W.keepIn K (.ref X18) = true)
    (veX18 : PySem.W.subIn K (.ref X18) (.type "ValueError") = some true)
    (noX18 : PySem.W.findIn K (.ref X18) "value" = some none)
    (iiX18 : PySem.W.findIn K (.ref X18) "__init__" = some (some (.ref fI)))
    (mrX18 : PySem.W.mroIn K X18 (.ref XD) = some true)
    (suX18 : PySem.W.ks_superIn K X18 XD "__init__" = some (some (.builtin "ValueError.__init__")))
    (gaX18 : PySem.W.findIn K (.ref X18) "__getattribute__" = some (some (.builtin "BaseException.__getattribute__")))
    (ggX18 : PySem.W.findIn K (.ref X18) "__getattr__" = some none)
    (hdX18 : PySem.W.hasDictIn K X18 = true)
    (clX18 : PySem.W.findIn K (.ref X18) "__class__" = some (some (.builtin "object.__class__")))
    (obX18 : PySem.W.mroIn K X18 (.type "object") = some true)
    (lX19 : K.lookup X19 = some (excClassObj nmX19 qX19 X19 NX19 bsX19 bmX19 true snX19 subX19 abX19 colX19 ddX19 maX19 mbX19 mcX19 mdX19 meX19 "ValueError.__new__"))
    (rvX19 : PySem.HandSPX.refsVE bmX19 = true)
    (saX19 : PySem.W.findIn K (.ref X19) "__setattr__" = some (some (.builtin "object.__setattr__")))
    (beX19 : PySem.W.subIn K (.ref X19) (.type "BaseException") = some true)
    (tyX19 : PySem.W.typeIn K (.ref X19) = some (.type "type"))
    (kcX19 : PySem.W.keepIn K (.ref X19) = true)
    (veX19 : PySem.W.subIn K (.ref X19) (.type "ValueError") = some true)
    (noX19 : PySem.W.findIn K (.ref X19) "value" = some none)
    (iiX19 : PySem.W.findIn K (.ref X19) "__init__" = some (some (.ref fI)))
    (mrX19 : PySem.W.mroIn K X19 (.ref XD) = some true)
    (suX19 : PySem.W.ks_superIn K X19 XD "__init__" = some (some (.builtin "ValueError.__init__")))
    (gaX19 : PySem.W.findIn K (.ref X19) "__getattribute__" = some (some (.builtin "BaseException.__getattribute__")))
    (ggX19 : PySem.W.findIn K (.ref X19) "__getattr__" = some none)
    (hdX19 : PySem.W.hasDictIn K X19 = true)
    (clX19 : PySem.W.findIn K (.ref X19) "__class__" = some (some (.builtin "object.__class__")))
    (obX19 : PySem.W.mroIn K X19 (.type "object") = some true)
    (lX20 : K.lookup X20 = some (excClassObj nmX20 qX20 X20 NX20 bsX20 bmX20 true snX20 subX20 abX20 colX20 ddX20 maX20 mbX20 mcX20 mdX20 meX20 "ValueError.__new__"))
    (rvX20 : PySem.HandSPX.refsVE bmX20 = true)
    (saX20 : PySem.W.findIn K (.ref X20) "__setattr__" = some (some (.builtin "object.__setattr__")))
    (beX20 : PySem.W.subIn K (.ref X20) (.type "BaseException") = some true)
    (tyX20 : PySem.W.typeIn K (.ref X20) = some (.type "type"))
    (kcX20 : PySem.W.keepIn K (.ref X20) = true)
    (veX20 : PySem.W.subIn K (.ref X20) (.type "ValueError") = some true)
    (noX20 : PySem.W.findIn K (.ref X20) "value" = some none)
    (iiX20 : PySem.W.findIn K (.ref X20) "__init__" = some (some (.ref fI)))
    (mrX20 : PySem.W.mroIn K X20 (.ref XD) = some true)
    (suX20 : PySem.W.ks_superIn K X20 XD "__init__" = some (some (.builtin "ValueError.__init__")))
    (gaX20 : PySem.W.findIn K (.ref X20) "__getattribute__" = some (some (.builtin "BaseException.__getattribute__")))
    (ggX20 : PySem.W.findIn K (.ref X20) "__getattr__" = some none)
    (hdX20 : PySem.W.hasDictIn K X20 = true)
    (clX20 : PySem.W.findIn K (.ref X20) "__class__" = some (some (.builtin "object.__class__")))
    (obX20 : PySem.W.mroIn K X20 (.type "object") = some true)
    (lX21 : K.lookup X21 = some (excClassObj nmX21 qX21 X21 NX21 bsX21 bmX21 true snX21 subX21 abX21 colX21 ddX21 maX21 mbX21 mcX21 mdX21 meX21 "ValueError.__new__"))
    (rvX21 : PySem.HandSPX.refsVE bmX21 = true)
    (saX21 : PySem.W.findIn K (.ref X21) "__setattr__" = some (some (.builtin "object.__setattr__")))
    (beX21 : PySem.W.subIn K (.ref X21) (.type "BaseException") = some true)
    (tyX21 : PySem.W.typeIn K (.ref X21) = some (.type "type"))
    (kcX21 : PySem.W.keepIn K (.ref X21) = true)
    (veX21 : PySem.W.subIn K (.ref X21) (.type "ValueError") = some true)
    (noX21 : PySem.W.findIn K (.ref X21) "value" = some none)
    (iiX21 : PySem.W.findIn K (.ref X21) "__init__" = some (some (.ref fI)))
    (mrX21 : PySem.W.mroIn K X21 (.ref XD) = some true)
    (suX21 : PySem.W.ks_superIn K X21 XD "__init__" = some (some (.builtin "ValueError.__init__")))
    (gaX21 : PySem.W.findIn K (.ref X21) "__getattribute__" = some (some (.builtin "BaseException.__getattribute__")))
    (ggX21 : PySem.W.findIn K (.ref X21) "__getattr__" = some none)
    (hdX21 : PySem.W.hasDictIn K X21 = true)
    (clX21 : PySem.W.findIn K (.ref X21) "__class__" = some (some (.builtin "object.__class__")))
    (obX21 : PySem.W.mroIn K X21 (.type "object") = some true)
    (lX22 : K.lookup X22 = some (excClassObj nmX22 qX22 X22 NX22 bsX22 bmX22 true snX22 subX22 abX22 colX22 ddX22 maX22 mbX22 mcX22 mdX22 meX22 "ValueError.__new__"))
    (rvX22 : PySem.HandSPX.refsVE bmX22 = true)
    (saX22 : PySem.W.findIn K (.ref X22) "__setattr__" = some (some (.builtin "object.__setattr__")))
    (beX22 : PySem.W.subIn K (.ref X22) (.type "BaseException") = some true)
    (tyX22 : PySem.W.typeIn K (.ref X22) = some (.type "type"))
    (kcX22 : PySem.W.keepIn K (.ref X22) = true)
    (veX22 : PySem.W.subIn K (.ref X22) (.type "ValueError") = some true)
    (noX22 : PySem.W.findIn K (.ref X22) "value" = some none)
    (iiX22 : PySem.W.findIn K (.ref X22) "__init__" = some (some (.ref fI)))
    (mrX22 : PySem.W.mroIn K X22 (.ref XD) = some true)
    (suX22 : PySem.W.ks_superIn K X22 XD "__init__" = some (some (.builtin "ValueError.__init__")))
    (gaX22 : PySem.W.findIn K (.ref X22) "__getattribute__" = some (some (.builtin "BaseException.__getattribute__")))
    (ggX22 : PySem.W.findIn K (.ref X22) "__getattr__" = some none)
    (hdX22 : PySem.W.hasDictIn K X22 = true)
    (clX22 : PySem.W.findIn K (.ref X22) "__class__" = some (some (.builtin "object.__class__")))
    (obX22 : PySem.W.mroIn K X22 (.type "object") = some true)
    (lX23 : K.lookup X23 = some (excClassObj nmX23 qX23 X23 NX23 bsX23 bmX23 true snX23 subX23 abX23 colX23 ddX23 maX23 mbX23 mcX23 mdX23 meX23 "ValueError.__new__"))
    (rvX23 : PySem.HandSPX.refsVE bmX23 = true)
    (saX23 : PySem.W.findIn K (.ref X23) "__setattr__" = some (some (.builtin "object.__setattr__")))
    (beX23 : PySem.W.subIn K (.ref X23) (.type "BaseException") = some true)
    (tyX23 : PySem.W.typeIn K (.ref X23) = some (.type "type"))
    (kcX23 : PySem.W.keepIn K (.ref X23) = true)
    (veX23 : PySem.W.subIn K (.ref X23) (.type "ValueError") = some true)
    (noX23 : PySem.W.findIn K (.ref X23) "value" = some none)
    (iiX23 : PySem.W.findIn K (.ref X23) "__init__" = some (some (.ref fI)))
    (mrX23 : PySem.W.mroIn K X23 (.ref XD) = some true)
    (suX23 : PySem.W.ks_superIn K X23 XD "__init__" = some (some (.builtin "ValueError.__init__")))
    (gaX23 : PySem.W.findIn K (.ref X23) "__getattribute__" = some (some (.builtin "BaseException.__getattribute__")))
    (ggX23 : PySem.W.findIn K (.ref X23) "__getattr__" = some none)
    (hdX23 : PySem.W.hasDictIn K X23 = true)
    (clX23 : PySem.W.findIn K (.ref X23) "__class__" = some (some (.builtin "object.__class__")))
    (obX23 : PySem.W.mroIn K X23 (.type "object") = some true)
    (lX24 : K.lookup X24 = some (excClassObj nmX24 qX24 X24 NX24 bsX24 bmX24 true snX24 subX24 abX24 colX24 ddX24 maX24 mbX24 mcX24 mdX24 meX24 "ValueError.__new__"))
    (rvX24 : PySem.HandSPX.refsVE bmX24 = true)
    (saX24 : PySem.W.findIn K (.ref X24) "__setattr__" = some (some (.builtin "object.__setattr__")))
    (beX24 : PySem.W.subIn K (.ref X24) (.type "BaseException") = some true)
    (tyX24 : PySem.W.typeIn K (.ref X24) = some (.type "type"))
    (kcX24 : PySem.W.keepIn K (.ref X24) = true)
    (veX24 : PySem.W.subIn K (.ref X24) (.type "ValueError") = some true)
    (noX24 : PySem.W.findIn K (.ref X24) "value" = some none)
    (iiX24 : PySem.W.findIn K (.ref X24) "__init__" = some (some (.ref fI)))
    (mrX24 : PySem.W.mroIn K X24 (.ref XD) = some true)
    (suX24 : PySem.W.ks_superIn K X24 XD "__init__" = some (some (.builtin "ValueError.__init__")))
    (gaX24 : PySem.W.findIn K (.ref X24) "__getattribute__" = some (some (.builtin "BaseException.__getattribute__")))
    (ggX24 : PySem.W.findIn K (.ref X24) "__getattr__" = some none)
    (hdX24 : PySem.W.hasDictIn K X24 = true)
    (clX24 : PySem.W.findIn K (.ref X24) "__class__" = some (some (.builtin "object.__class__")))
    (obX24 : PySem.W.mroIn K X24 (.type "object") = some true)
    (lX25 : K.lookup X25 = some (excClassObj nmX25 qX25 X25 NX25 bsX25 bmX25 true snX25 subX25 abX25 colX25 ddX25 maX25 mbX25 mcX25 mdX25 meX25 "ValueError.__new__"))
    (rvX25 : PySem.HandSPX.refsVE bmX25 = true)
    (saX25 : PySem.W.findIn K (.ref X25) "__setattr__" = some (some (.builtin "object.__setattr__")))
    (beX25 : PySem.W.subIn K (.ref X25) (.type "BaseException") = some true)
    (tyX25 : PySem.W.typeIn K (.ref X25) = some (.type "type"))
    (kcX25 : PySem.W.keepIn K (.ref X25) = true)
    (veX25 : PySem.W.subIn K (.ref X25) (.type "ValueError") = some true)
    (noX25 : PySem.W.findIn K (.ref X25) "value" = some none)
    (iiX25 : PySem.W.findIn K (.ref X25) "__init__" = some (some (.ref fI)))
    (mrX25 : PySem.W.mroIn K X25 (.ref XD) = some true)
    (suX25 : PySem.W.ks_superIn K X25 XD "__init__" = some (some (.builtin "ValueError.__init__")))
    (gaX25 : PySem.W.findIn K (.ref X25) "__getattribute__" = some (some (.builtin "BaseException.__getattribute__")))
    (ggX25 : PySem.W.findIn K (.ref X25) "__getattr__" = some none)
    (hdX25 : PySem.W.hasDictIn K X25 = true)
    (clX25 : PySem.W.findIn K (.ref X25) "__class__" = some (some (.builtin "object.__class__")))
    (obX25 : PySem.W.mroIn K X25 (.type "object") = some true)
    (lX26 : K.lookup X26 = some (excClassObj nmX26 qX26 X26 NX26 bsX26 bmX26 true snX26 subX26 abX26 colX26 ddX26 maX26 mbX26 mcX26 mdX26 meX26 "ValueError.__new__"))
    (rvX26 : PySem.HandSPX.refsVE bmX26 = true)
    (saX26 : PySem.W.findIn K (.ref X26) "__setattr__" = some (some (.builtin "object.__setattr__")))
    (beX26 : PySem.W.subIn K (.ref X26) (.type "BaseException") = some true)
    (tyX26 : PySem.W.typeIn K (.ref X26) = some (.type "type"))
    (kcX26 : PySem.W.keepIn K (.ref X26) = true)
    (veX26 : PySem.W.subIn K (.ref X26) (.type "ValueError") = some true)
    (noX26 : PySem.W.findIn K (.ref X26) "value" = some none)
    (iiX26 : PySem.W.findIn K (.ref X26) "__init__" = some (some (.ref fI)))
    (mrX26 : PySem.W.mroIn K X26 (.ref XD) = some true)
    (suX26 : PySem.W.ks_superIn K X26 XD "__init__" = some (some (.builtin "ValueError.__init__")))
    (gaX26 : PySem.W.findIn K (.ref X26) "__getattribute__" = some (some (.builtin "BaseException.__getattribute__")))
    (ggX26 : PySem.W.findIn K (.ref X26) "__getattr__" = some none)
    (hdX26 : PySem.W.hasDictIn K X26 = true)
    (clX26 : PySem.W.findIn K (.ref X26) "__class__" = some (some (.builtin "object.__class__")))
    (obX26 : PySem.W.mroIn K X26 (.type "object") = some true)
    (lX27 : K.lookup X27 = some (excClassObj nmX27 qX27 X27 NX27 bsX27 bmX27 true snX27 subX27 abX27 colX27 ddX27 maX27 mbX27 mcX27 mdX27 meX27 "ValueError.__new__"))
    (rvX27 : PySem.HandSPX.refsVE bmX27 = true)
    (saX27 : PySem.W.findIn K (.ref X27) "__setattr__" = some (some (.builtin "object.__setattr__")))
    (beX27 : PySem.W.subIn K (.ref X27) (.type "BaseException") = some true)
    (tyX27 : PySem.W.typeIn K (.ref X27) = some (.type "type"))
    (kcX27 : PySem.W.keepIn K (.ref X27) = true)
    (veX27 : PySem.W.subIn K (.ref X27) (.type "ValueError") = some true)
    (noX27 : PySem.W.findIn K (.ref X27) "value" = some none)
    (iiX27 : PySem.W.findIn K (.ref X27) "__init__" = some (some (.ref fI)))
    (mrX27 : PySem.W.mroIn K X27 (.ref XD) = some true)
    (suX27 : PySem.W.ks_superIn K X27 XD "__init__" = some (some (.builtin "ValueError.__init__")))
    (gaX27 : PySem.W.findIn K (.ref X27) "__getattribute__" = some (some (.builtin "BaseException.__getattribute__")))
    (ggX27 : PySem.W.findIn K (.ref X27) "__getattr__" = some none)
    (hdX27 : PySem.W.hasDictIn K X27 = true)
    (clX27 : PySem.W.findIn K (.ref X27) "__class__" = some (some (.builtin "object.__class__")))
    (obX27 : PySem.W.mroIn K X27 (.type "object") = some true)
    (lX28 : K.lookup X28 = some (excClassObj nmX28 qX28 X28 NX28 bsX28 bmX28 true snX28 subX28 abX28 colX28 ddX28 maX28 mbX28 mcX28 mdX28 meX28 "ValueError.__new__"))
    (rvX28 : PySem.HandSPX.refsVE bmX28 = true)
    (saX28 : PySem.W.findIn K (.ref X28) "__setattr__" = some (some (.builtin "object.__setattr__")))
    (beX28 : PySem.W.subIn K (.ref X28) (.type "BaseException") = some true)
    (tyX28 : PySem.W.typeIn K (.ref X28) = some (.type "type"))
    (kcX28 : PySem.W.keepIn K (.ref X28) = true)
    (veX28 : PySem.W.subIn K (.ref X28) (.type "ValueError") = some true)
    (noX28 : PySem.W.findIn K (.ref X28) "value" = some none)
    (iiX28 : PySem.W.findIn K (.ref X28) "__init__" = some (some (.ref fI)))
    (mrX28 : PySem.W.mroIn K X28 (.ref XD) = some true)
    (suX28 : PySem.W.ks_superIn K X28 XD "__init__" = some (some (.builtin "ValueError.__init__")))
    (gaX28 : PySem.W.findIn K (.ref X28) "__getattribute__" = some (some (.builtin "BaseException.__getattribute__")))
    (ggX28 : PySem.W.findIn K (.ref X28) "__getattr__" = some none)
    (hdX28 : PySem.W.hasDictIn K X28 = true)
    (clX28 : PySem.W.findIn K (.ref X28) "__class__" = some (some (.builtin "object.__class__")))
    (obX28 : PySem.W.mroIn K X28 (.type "object") = some true)
    (lX29 : K.lookup X29 = some (excClassObj nmX29 qX29 X29 NX29 bsX29 bmX29 true snX29 subX29 abX29 colX29 ddX29 maX29 mbX29 mcX29 mdX29 meX29 "ValueError.__new__"))
    (rvX29 : PySem.HandSPX.refsVE bmX29 = true)
    (saX29 : PySem.W.findIn K (.ref X29) "__setattr__" = some (some (.builtin "object.__setattr__")))
    (beX29 : PySem.W.subIn K (.ref X29) (.type "BaseException") = some true)
    (tyX29 : PySem.W.typeIn K (.ref X29) = some (.type "type"))
    (kcX29 : PySem.W.keepIn K (.ref X29) = true)
    (veX29 : PySem.W.subIn K (.ref X29) (.type "ValueError") = some true)
    (noX29 : PySem.W.findIn K (.ref X29) "value" = some none)
    (iiX29 : PySem.W.findIn K (.ref X29) "__init__" = some (some (.ref fI)))
    (mrX29 : PySem.W.mroIn K X29 (.ref XD) = some true)
    (suX29 : PySem.W.ks_superIn K X29 XD "__init__" = some (some (.builtin "ValueError.__init__")))
    (gaX29 : PySem.W.findIn K (.ref X29) "__getattribute__" = some (some (.builtin "BaseException.__getattribute__")))
    (ggX29 : PySem.W.findIn K (.ref X29) "__getattr__" = some none)
    (hdX29 : PySem.W.hasDictIn K X29 = true)
    (clX29 : PySem.W.findIn K (.ref X29) "__class__" = some (some (.builtin "object.__class__")))
    (obX29 : PySem.W.mroIn K X29 (.type "object") = some true)
    (lX30 : K.lookup X30 = some (excClassObj nmX30 qX30 X30 NX30 bsX30 bmX30 true snX30 subX30 abX30 colX30 ddX30 maX30 mbX30 mcX30 mdX30 meX30 "ValueError.__new__"))
    (rvX30 : PySem.HandSPX.refsVE bmX30 = true)
    (saX30 : PySem.W.findIn K (.ref X30) "__setattr__" = some (some (.builtin "object.__setattr__")))
    (beX30 : PySem.W.subIn K (.ref X30) (.type "BaseException") = some true)
    (tyX30 : PySem.W.typeIn K (.ref X30) = some (.type "type"))
    (kcX30 : PySem.W.keepIn K (.ref X30) = true)
    (veX30 : PySem.W.subIn K (.ref X30) (.type "ValueError") = some true)
    (noX30 : PySem.W.findIn K (.ref X30) "value" = some none)
    (iiX30 : PySem.W.findIn K (.ref X30) "__init__" = some (some (.ref fI)))
    (mrX30 : PySem.W.mroIn K X30 (.ref XD) = some true)
    (suX30 : PySem.W.ks_superIn K X30 XD "__init__" = some (some (.builtin "ValueError.__init__")))
    (gaX30 : PySem.W.findIn K (.ref X30) "__getattribute__" = some (some (.builtin "BaseException.__getattribute__")))
    (ggX30 : PySem.W.findIn K (.ref X30) "__getattr__" = some none)
    (hdX30 : PySem.W.hasDictIn K X30 = true)
    (clX30 : PySem.W.findIn K (.ref X30) "__class__" = some (some (.builtin "object.__class__")))
    (obX30 : PySem.W.mroIn K X30 (.type "object") = some true)
    (lX31 : K.lookup X31 = some (excClassObj nmX31 qX31 X31 NX31 bsX31 bmX31 true snX31 subX31 abX31 colX31 ddX31 maX31 mbX31 mcX31 mdX31 meX31 "ValueError.__new__"))
    (rvX31 : PySem.HandSPX.refsVE bmX31 = true)
    (saX31 : PySem.W.findIn K (.ref X31) "__setattr__" = some (some (.builtin "object.__setattr__")))
    (beX31 : PySem.W.subIn K (.ref X31) (.type "BaseException") = some true)
    (tyX31 : PySem.W.typeIn K (.ref X31) = some (.type "type"))
    (kcX31 : PySem.W.keepIn K (.ref X31) = true)
    (veX31 : PySem.W.subIn K (.ref X31) (.type "ValueError") = some true)
    (noX31 : PySem.W.findIn K (.ref X31) "value" = some none)
    (iiX31 : PySem.W.findIn K (.ref X31) "__init__" = some (some (.ref fI)))
    (mrX31 : PySem.W.mroIn K X31 (.ref XD) = some true)
    (suX31 : PySem.W.ks_superIn K X31 XD "__init__" = some (some (.builtin "ValueError.__init__")))
    (gaX31 : PySem.W.findIn K (.ref X31) "__getattribute__" = some (some (.builtin "BaseException.__getattribute__")))
    (ggX31 : PySem.W.findIn K (.ref X31) "__getattr__" = some none)
    (hdX31 : PySem.W.hasDictIn K X31 = true)
    (clX31 : PySem.W.findIn K (.ref X31) "__class__" = some (some (.builtin "object.__class__")))
    (obX31 : PySem.W.mroIn K X31 (.type "object") = some true)
    (lX32 : K.lookup X32 = some (excClassObj nmX32 qX32 X32 NX32 bsX32 bmX32 true snX32 subX32 abX32 colX32 ddX32 maX32 mbX32 mcX32 mdX32 meX32 "ValueError.__new__"))
    (rvX32 : PySem.HandSPX.refsVE bmX32 = true)
    (saX32 : PySem.W.findIn K (.ref X32) "__setattr__" = some (some (.builtin "object.__setattr__")))
    (beX32 : PySem.W.subIn K (.ref X32) (.type "BaseException") = some true)
    (tyX32 : PySem.W.typeIn K (.ref X32) = some (.type "type"))
    (kcX32 : PySem.W.keepIn K (.ref X32) = true)
    (veX32 : PySem.W.subIn K (.ref X32) (.type "ValueError") = some true)
    (noX32 : PySem.W.findIn K (.ref X32) "value" = some none)
    (iiX32 : PySem.W.findIn K (.ref X32) "__init__" = some (some (.ref fI)))
    (mrX32 : PySem.W.mroIn K X32 (.ref XD) = some true)
    (suX32 : PySem.W.ks_superIn K X32 XD "__init__" = some (some (.builtin "ValueError.__init__")))
    (gaX32 : PySem.W.findIn K (.ref X32) "__getattribute__" = some (some (.builtin "BaseException.__getattribute__")))
    (ggX32 : PySem.W.findIn K (.ref X32) "__getattr__" = some none)
    (hdX32 : PySem.W.hasDictIn K X32 = true)
    (clX32 : PySem.W.findIn K (.ref X32) "__class__" = some (some (.builtin "object.__class__")))
    (obX32 : PySem.W.mroIn K X32 (.type "object") = some true)
    (lX33 : K.lookup X33 = some (excClassObj nmX33 qX33 X33 NX33 bsX33 bmX33 true snX33 subX33 abX33 colX33 ddX33 maX33 mbX33 mcX33 mdX33 meX33 "ValueError.__new__"))
    (rvX33 : PySem.HandSPX.refsVE bmX33 = true)
    (saX33 : PySem.W.findIn K (.ref X33) "__setattr__" = some (some (.builtin "object.__setattr__")))
    (beX33 : PySem.W.subIn K (.ref X33) (.type "BaseException") = some true)
    (tyX33 : PySem.W.typeIn K (.ref X33) = some (.type "type"))
    (kcX33 : PySem.W.keepIn K (.ref X33) = true)
    (veX33 : PySem.W.subIn K (.ref X33) (.type "ValueError") = some true)
    (noX33 : PySem.W.findIn K (.ref X33) "value" = some none)
    (iiX33 : PySem.W.findIn K (.ref X33) "__init__" = some (some (.ref fI)))
    (mrX33 : PySem.W.mroIn K X33 (.ref XD) = some true)
    (suX33 : PySem.W.ks_superIn K X33 XD "__init__" = some (some (.builtin "ValueError.__init__")))
    (gaX33 : PySem.W.findIn K (.ref X33) "__getattribute__" = some (some (.builtin "BaseException.__getattribute__")))
    (ggX33 : PySem.W.findIn K (.ref X33) "__getattr__" = some none)
    (hdX33 : PySem.W.hasDictIn K X33 = true)
    (clX33 : PySem.W.findIn K (.ref X33) "__class__" = some (some (.builtin "object.__class__")))
    (obX33 : PySem.W.mroIn K X33 (.type "object") = some true)
    (kta : ktB K [("BoxError", X0), ("BadStep", X1), ("NoPlace", X2), ("Uneven", X3), ("BadBox", X4), ("BadMove", X5), ("BadStanding", X6), ("BadRecord", X7), ("NoStep", X8), ("TooMany", X9), ("Heavy", X10), ("Wide", X11), ("OtherLines", X12), ("BadMoves", X13), ("BadGiven", X14), ("NoPart", X15), ("BadNet", X16), ("BadWish", X17), ("BadNumber", X18), ("Chooses", X19), ("BadInputs", X20), ("NoBox", X21), ("BadSeen", X22), ("BadBoxes", X23), ("BadOffers", X24), ("NotFirst", X25), ("NotNow", X26), ("BadWorth", X27), ("NoLine", X28), ("BadJournal", X29), ("NoTrial", X30), ("NothingToRedo", X31), ("NothingToUndo", X32), ("BadLine", X33)] [("BoxError", X0), ("NoPlace", X2), ("Uneven", X3), ("BadBox", X4), ("BadRecord", X7), ("NoStep", X8), ("BadStep", X1), ("OtherLines", X12), ("BadMove", X5), ("BadStanding", X6), ("TooMany", X9), ("Heavy", X10), ("Wide", X11), ("BadGiven", X14), ("NoPart", X15), ("BadNet", X16), ("Chooses", X19), ("BadInputs", X20), ("BadMoves", X13), ("BadOffers", X24), ("BadWish", X17), ("BadNumber", X18), ("NoBox", X21), ("BadSeen", X22), ("BadBoxes", X23), ("NotNow", X26), ("BadWorth", X27), ("NoLine", X28), ("NothingToRedo", X31), ("NothingToUndo", X32), ("NotFirst", X25), ("BadLine", X33), ("BadJournal", X29), ("NoTrial", X30)] [("BoxError", "BoxError"), ("BadStep", "BoxError"), ("BadStep", "BadStep"), ("NoPlace", "BoxError"), ("NoPlace", "NoPlace"), ("Uneven", "BoxError"), ("Uneven", "Uneven"), ("BadBox", "BoxError"), ("BadBox", "BadBox"), ("BadMove", "BoxError"), ("BadMove", "BadMove"), ("BadStanding", "BoxError"), ("BadStanding", "BadStanding"), ("BadRecord", "BoxError"), ("BadRecord", "BadRecord"), ("NoStep", "BoxError"), ("NoStep", "NoStep"), ("TooMany", "BoxError"), ("TooMany", "TooMany"), ("Heavy", "BoxError"), ("Heavy", "Heavy"), ("Wide", "BoxError"), ("Wide", "Wide"), ("OtherLines", "BoxError"), ("OtherLines", "OtherLines"), ("BadMoves", "BoxError"), ("BadMoves", "BadMoves"), ("BadGiven", "BoxError"), ("BadGiven", "BadGiven"), ("NoPart", "BoxError"), ("NoPart", "NoPart"), ("BadNet", "BoxError"), ("BadNet", "BadNet"), ("BadWish", "BoxError"), ("BadWish", "BadWish"), ("BadNumber", "BoxError"), ("BadNumber", "BadNumber"), ("Chooses", "BoxError"), ("Chooses", "Chooses"), ("BadInputs", "BoxError"), ("BadInputs", "BadInputs"), ("NoBox", "BoxError"), ("NoBox", "NoBox"), ("BadSeen", "BoxError"), ("BadSeen", "BadSeen"), ("BadBoxes", "BoxError"), ("BadBoxes", "BadBoxes"), ("BadOffers", "BoxError"), ("BadOffers", "BadOffers"), ("NotFirst", "BoxError"), ("NotFirst", "NotFirst"), ("NotNow", "BoxError"), ("NotNow", "NotNow"), ("BadWorth", "BoxError"), ("BadWorth", "BadWorth"), ("NoLine", "BoxError"), ("NoLine", "NoLine"), ("BadJournal", "BoxError"), ("BadJournal", "BadJournal"), ("NoTrial", "BoxError"), ("NoTrial", "NoTrial"), ("NothingToRedo", "BoxError"), ("NothingToRedo", "NothingToRedo"), ("NothingToUndo", "BoxError"), ("NothingToUndo", "NothingToUndo"), ("BadLine", "BoxError"), ("BadLine", "BadLine")] = true)
    (z0 : PySem.W.nsIn K mainGlobals "len" = some none)
    (z1 : PySem.W.nsIn K mainGlobals "abs" = some none)
    (z2 : PySem.W.nsIn K mainGlobals "int" = some none)
    (z3 : PySem.W.nsIn K mainGlobals "str" = some none)
    (z4 : PySem.W.nsIn K mainGlobals "list" = some none)
    (z5 : PySem.W.nsIn K mainGlobals "tuple" = some none)
    (z6 : PySem.W.nsIn K mainGlobals "max" = some none)
    (z7 : PySem.W.nsIn K mainGlobals "min" = some none)
    (z8 : PySem.W.nsIn K mainGlobals "sum" = some none)
    (z9 : PySem.W.nsIn K mainGlobals "all" = some none)
    (z10 : PySem.W.nsIn K mainGlobals "any" = some none)
    (z11 : PySem.W.nsIn K mainGlobals "sorted" = some none)
    (z12 : PySem.W.nsIn K mainGlobals "repr" = some none)
    (z13 : PySem.W.nsIn K mainGlobals "dict" = some none)
    (z14 : PySem.W.nsIn K mainGlobals "set" = some none)
    (z15 : PySem.W.nsIn K mainGlobals "range" = some none)
    (z16 : PySem.W.nsIn K mainGlobals "isinstance" = some none)
    (z17 : PySem.W.nsIn K mainGlobals "bool" = some none)
    (z18 : PySem.W.nsIn K mainGlobals "enumerate" = some none)
    (z19 : PySem.W.nsIn K mainGlobals "zip" = some none)
    (z20 : PySem.W.nsIn K mainGlobals "ValueError" = some none)
    : ∃ cs : List (Addr × Addr), (∀ p ∈ cs, h.get? p.2 = some { cls := .none, data := .fields #[] }) ∧ (∀ p ∈ cs, K.lookup p.2 = none) ∧ (∀ p ∈ cs, PySem.W.CodeHd h p.1 p.2) ∧
      ∀ base : Heap, K.In base → (∀ p ∈ cs, LamX.TabB base mg p.1 p.2) →
      ∃ T : Tab, T.prog = l.prog ∧ T.w = w ∧ T.K = K ∧ T.mg = mg ∧ T.base = base ∧ T.P = dat.P ∧ (∀ p ∈ T.cl.tabs, p.1 ∈ cs.map (·.2)) ∧ TOk T ∧ (∀ q a, T.ad q = some a → DefOk T q a) ∧ T.ad "law" = some fa := by
  have elaw := hfa.symm.trans (PySem.W.mg_of X G af3)
  cases elaw
  let adT : List (String × Addr) := [("_law_is_kept", f0), ("_law_made", f1), ("_law_marked", f2), ("law", fa)]
  let clT : List (String × Addr) := []
  let xcT : List (String × Addr) := [("BoxError", X0), ("BadStep", X1), ("NoPlace", X2), ("Uneven", X3), ("BadBox", X4), ("BadMove", X5), ("BadStanding", X6), ("BadRecord", X7), ("NoStep", X8), ("TooMany", X9), ("Heavy", X10), ("Wide", X11), ("OtherLines", X12), ("BadMoves", X13), ("BadGiven", X14), ("NoPart", X15), ("BadNet", X16), ("BadWish", X17), ("BadNumber", X18), ("Chooses", X19), ("BadInputs", X20), ("NoBox", X21), ("BadSeen", X22), ("BadBoxes", X23), ("BadOffers", X24), ("NotFirst", X25), ("NotNow", X26), ("BadWorth", X27), ("NoLine", X28), ("BadJournal", X29), ("NoTrial", X30), ("NothingToRedo", X31), ("NothingToUndo", X32), ("BadLine", X33)]
  let tabs : List (Addr × Str) := []
  have I : IniOk l.prog K fI XD := ⟨ist, itop, ity, ⟨_, _, _, _, _, _, _, _, _, _, _, _, _, _, _, _, _, _, _, _, _, _, _, _, _, _, _, _, init_mk ini_b ini_s, il, ic, rfl, rfl, fun us hl => match us, hl with | [_, _], _ => rfl, ica, iv, ifl, icc, icd⟩⟩
  have xoX0 : ExcOk l.prog K "value" X0 := exc_mk I lX0 rvX0 saX0 beX0 tyX0 kcX0 veX0 noX0 aI mrX0 suX0
  have xoX1 : ExcOk l.prog K "value" X1 := exc_mk I lX1 rvX1 saX1 beX1 tyX1 kcX1 veX1 noX1 iiX1 mrX1 suX1
  have xoX2 : ExcOk l.prog K "value" X2 := exc_mk I lX2 rvX2 saX2 beX2 tyX2 kcX2 veX2 noX2 iiX2 mrX2 suX2
  have xoX3 : ExcOk l.prog K "value" X3 := exc_mk I lX3 rvX3 saX3 beX3 tyX3 kcX3 veX3 noX3 iiX3 mrX3 suX3
  have xoX4 : ExcOk l.prog K "value" X4 := exc_mk I lX4 rvX4 saX4 beX4 tyX4 kcX4 veX4 noX4 iiX4 mrX4 suX4
  have xoX5 : ExcOk l.prog K "value" X5 := exc_mk I lX5 rvX5 saX5 beX5 tyX5 kcX5 veX5 noX5 iiX5 mrX5 suX5
  have xoX6 : ExcOk l.prog K "value" X6 := exc_mk I lX6 rvX6 saX6 beX6 tyX6 kcX6 veX6 noX6 iiX6 mrX6 suX6
  have xoX7 : ExcOk l.prog K "value" X7 := exc_mk I lX7 rvX7 saX7 beX7 tyX7 kcX7 veX7 noX7 iiX7 mrX7 suX7
  have xoX8 : ExcOk l.prog K "value" X8 := exc_mk I lX8 rvX8 saX8 beX8 tyX8 kcX8 veX8 noX8 iiX8 mrX8 suX8
  have xoX9 : ExcOk l.prog K "value" X9 := exc_mk I lX9 rvX9 saX9 beX9 tyX9 kcX9 veX9 noX9 iiX9 mrX9 suX9
  have xoX10 : ExcOk l.prog K "value" X10 := exc_mk I lX10 rvX10 saX10 beX10 tyX10 kcX10 veX10 noX10 iiX10 mrX10 suX10
  have xoX11 : ExcOk l.prog K "value" X11 := exc_mk I lX11 rvX11 saX11 beX11 tyX11 kcX11 veX11 noX11 iiX11 mrX11 suX11
  have xoX12 : ExcOk l.prog K "value" X12 := exc_mk I lX12 rvX12 saX12 beX12 tyX12 kcX12 veX12 noX12 iiX12 mrX12 suX12
  have xoX13 : ExcOk l.prog K "value" X13 := exc_mk I lX13 rvX13 saX13 beX13 tyX13 kcX13 veX13 noX13 iiX13 mrX13 suX13
  have xoX14 : ExcOk l.prog K "value" X14 := exc_mk I lX14 rvX14 saX14 beX14 tyX14 kcX14 veX14 noX14 iiX14 mrX14 suX14
  have xoX15 : ExcOk l.prog K "value" X15 := exc_mk I lX15 rvX15 saX15 beX15 tyX15 kcX15 veX15 noX15 iiX15 mrX15 suX15
  have xoX16 : ExcOk l.prog K "value" X16 := exc_mk I lX16 rvX16 saX16 beX16 tyX16 kcX16 veX16 noX16 iiX16 mrX16 suX16
  have xoX17 : ExcOk l.prog K "value" X17 := exc_mk I lX17 rvX17 saX17 beX17 tyX17 kcX17 veX17 noX17 iiX17 mrX17 suX17
  have xoX18 : ExcOk l.prog K "value" X18 := exc_mk I lX18 rvX18 saX18 beX18 tyX18 kcX18 veX18 noX18 iiX18 mrX18 suX18
  have xoX19 : ExcOk l.prog K "value" X19 := exc_mk I lX19 rvX19 saX19 beX19 tyX19 kcX19 veX19 noX19 iiX19 mrX19 suX19
  have xoX20 : ExcOk l.prog K "value" X20 := exc_mk I lX20 rvX20 saX20 beX20 tyX20 kcX20 veX20 noX20 iiX20 mrX20 suX20
  have xoX21 : ExcOk l.prog K "value" X21 := exc_mk I lX21 rvX21 saX21 beX21 tyX21 kcX21 veX21 noX21 iiX21 mrX21 suX21
  have xoX22 : ExcOk l.prog K "value" X22 := exc_mk I lX22 rvX22 saX22 beX22 tyX22 kcX22 veX22 noX22 iiX22 mrX22 suX22
  have xoX23 : ExcOk l.prog K "value" X23 := exc_mk I lX23 rvX23 saX23 beX23 tyX23 kcX23 veX23 noX23 iiX23 mrX23 suX23
  have xoX24 : ExcOk l.prog K "value" X24 := exc_mk I lX24 rvX24 saX24 beX24 tyX24 kcX24 veX24 noX24 iiX24 mrX24 suX24
  have xoX25 : ExcOk l.prog K "value" X25 := exc_mk I lX25 rvX25 saX25 beX25 tyX25 kcX25 veX25 noX25 iiX25 mrX25 suX25
  have xoX26 : ExcOk l.prog K "value" X26 := exc_mk I lX26 rvX26 saX26 beX26 tyX26 kcX26 veX26 noX26 iiX26 mrX26 suX26
  have xoX27 : ExcOk l.prog K "value" X27 := exc_mk I lX27 rvX27 saX27 beX27 tyX27 kcX27 veX27 noX27 iiX27 mrX27 suX27
  have xoX28 : ExcOk l.prog K "value" X28 := exc_mk I lX28 rvX28 saX28 beX28 tyX28 kcX28 veX28 noX28 iiX28 mrX28 suX28
  have xoX29 : ExcOk l.prog K "value" X29 := exc_mk I lX29 rvX29 saX29 beX29 tyX29 kcX29 veX29 noX29 iiX29 mrX29 suX29
  have xoX30 : ExcOk l.prog K "value" X30 := exc_mk I lX30 rvX30 saX30 beX30 tyX30 kcX30 veX30 noX30 iiX30 mrX30 suX30
  have xoX31 : ExcOk l.prog K "value" X31 := exc_mk I lX31 rvX31 saX31 beX31 tyX31 kcX31 veX31 noX31 iiX31 mrX31 suX31
  have xoX32 : ExcOk l.prog K "value" X32 := exc_mk I lX32 rvX32 saX32 beX32 tyX32 kcX32 veX32 noX32 iiX32 mrX32 suX32
  have xoX33 : ExcOk l.prog K "value" X33 := exc_mk I lX33 rvX33 saX33 beX33 tyX33 kcX33 veX33 noX33 iiX33 mrX33 suX33
  have Fx : Fax dat l.prog K mg adT clT xcT := {
    gl := all_nil
    bn := all_cons (PySem.W.mg_none_of X G z0)
      (all_cons (PySem.W.mg_none_of X G z1)
      (all_cons (PySem.W.mg_none_of X G z2)
      (all_cons (PySem.W.mg_none_of X G z3)
      (all_cons (PySem.W.mg_none_of X G z4)
      (all_cons (PySem.W.mg_none_of X G z5)
      (all_cons (PySem.W.mg_none_of X G z6)
      (all_cons (PySem.W.mg_none_of X G z7)
      (all_cons (PySem.W.mg_none_of X G z8)
      (all_cons (PySem.W.mg_none_of X G z9)
      (all_cons (PySem.W.mg_none_of X G z10)
      (all_cons (PySem.W.mg_none_of X G z11)
      (all_cons (PySem.W.mg_none_of X G z12)
      (all_cons (PySem.W.mg_none_of X G z13)
      (all_cons (PySem.W.mg_none_of X G z14)
      (all_cons (PySem.W.mg_none_of X G z15)
      (all_cons (PySem.W.mg_none_of X G z16)
      (all_cons (PySem.W.mg_none_of X G z17)
      (all_cons (PySem.W.mg_none_of X G z18)
      (all_cons (PySem.W.mg_none_of X G z19)
      (all_cons (PySem.W.mg_none_of X G z20)
      (all_nil)))))))))))))))))))))
    fn := all_cons (⟨_, rfl, PySem.W.mg_of X G af0, kf0⟩)
      (all_cons (⟨_, rfl, PySem.W.mg_of X G af1, kf1⟩)
      (all_cons (⟨_, rfl, PySem.W.mg_of X G af2, kf2⟩)
      (all_cons (⟨_, rfl, PySem.W.mg_of X G af3, kf3⟩)
      (all_nil))))
    cls := all_nil
    clk := all_nil
    mt := all_nil
    mak := all_nil
    pr := all_nil
    fl := all_nil
    exc := all_cons (⟨_, rfl, PySem.W.mg_of X G aX0, xoX0, PySem.W.mg_none_of X G isu⟩)
      (all_cons (⟨_, rfl, PySem.W.mg_of X G aX1, xoX1, PySem.W.mg_none_of X G isu⟩)
      (all_cons (⟨_, rfl, PySem.W.mg_of X G aX2, xoX2, PySem.W.mg_none_of X G isu⟩)
      (all_cons (⟨_, rfl, PySem.W.mg_of X G aX3, xoX3, PySem.W.mg_none_of X G isu⟩)
      (all_cons (⟨_, rfl, PySem.W.mg_of X G aX4, xoX4, PySem.W.mg_none_of X G isu⟩)
      (all_cons (⟨_, rfl, PySem.W.mg_of X G aX5, xoX5, PySem.W.mg_none_of X G isu⟩)
      (all_cons (⟨_, rfl, PySem.W.mg_of X G aX6, xoX6, PySem.W.mg_none_of X G isu⟩)
      (all_cons (⟨_, rfl, PySem.W.mg_of X G aX7, xoX7, PySem.W.mg_none_of X G isu⟩)
      (all_cons (⟨_, rfl, PySem.W.mg_of X G aX8, xoX8, PySem.W.mg_none_of X G isu⟩)
      (all_cons (⟨_, rfl, PySem.W.mg_of X G aX9, xoX9, PySem.W.mg_none_of X G isu⟩)
      (all_cons (⟨_, rfl, PySem.W.mg_of X G aX10, xoX10, PySem.W.mg_none_of X G isu⟩)
      (all_cons (⟨_, rfl, PySem.W.mg_of X G aX11, xoX11, PySem.W.mg_none_of X G isu⟩)
      (all_cons (⟨_, rfl, PySem.W.mg_of X G aX12, xoX12, PySem.W.mg_none_of X G isu⟩)
      (all_cons (⟨_, rfl, PySem.W.mg_of X G aX13, xoX13, PySem.W.mg_none_of X G isu⟩)
      (all_cons (⟨_, rfl, PySem.W.mg_of X G aX14, xoX14, PySem.W.mg_none_of X G isu⟩)
      (all_cons (⟨_, rfl, PySem.W.mg_of X G aX15, xoX15, PySem.W.mg_none_of X G isu⟩)
      (all_cons (⟨_, rfl, PySem.W.mg_of X G aX16, xoX16, PySem.W.mg_none_of X G isu⟩)
      (all_cons (⟨_, rfl, PySem.W.mg_of X G aX17, xoX17, PySem.W.mg_none_of X G isu⟩)
      (all_cons (⟨_, rfl, PySem.W.mg_of X G aX18, xoX18, PySem.W.mg_none_of X G isu⟩)
      (all_cons (⟨_, rfl, PySem.W.mg_of X G aX19, xoX19, PySem.W.mg_none_of X G isu⟩)
      (all_cons (⟨_, rfl, PySem.W.mg_of X G aX20, xoX20, PySem.W.mg_none_of X G isu⟩)
      (all_cons (⟨_, rfl, PySem.W.mg_of X G aX21, xoX21, PySem.W.mg_none_of X G isu⟩)
      (all_cons (⟨_, rfl, PySem.W.mg_of X G aX22, xoX22, PySem.W.mg_none_of X G isu⟩)
      (all_cons (⟨_, rfl, PySem.W.mg_of X G aX23, xoX23, PySem.W.mg_none_of X G isu⟩)
      (all_cons (⟨_, rfl, PySem.W.mg_of X G aX24, xoX24, PySem.W.mg_none_of X G isu⟩)
      (all_cons (⟨_, rfl, PySem.W.mg_of X G aX25, xoX25, PySem.W.mg_none_of X G isu⟩)
      (all_cons (⟨_, rfl, PySem.W.mg_of X G aX26, xoX26, PySem.W.mg_none_of X G isu⟩)
      (all_cons (⟨_, rfl, PySem.W.mg_of X G aX27, xoX27, PySem.W.mg_none_of X G isu⟩)
      (all_cons (⟨_, rfl, PySem.W.mg_of X G aX28, xoX28, PySem.W.mg_none_of X G isu⟩)
      (all_cons (⟨_, rfl, PySem.W.mg_of X G aX29, xoX29, PySem.W.mg_none_of X G isu⟩)
      (all_cons (⟨_, rfl, PySem.W.mg_of X G aX30, xoX30, PySem.W.mg_none_of X G isu⟩)
      (all_cons (⟨_, rfl, PySem.W.mg_of X G aX31, xoX31, PySem.W.mg_none_of X G isu⟩)
      (all_cons (⟨_, rfl, PySem.W.mg_of X G aX32, xoX32, PySem.W.mg_none_of X G isu⟩)
      (all_cons (⟨_, rfl, PySem.W.mg_of X G aX33, xoX33, PySem.W.mg_none_of X G isu⟩)
      (all_nil))))))))))))))))))))))))))))))))))
    xk := all_cons (⟨⟨gaX0, ggX0, beX0, hdX0, clX0, xhn, xht, obX0⟩, ⟨gaX0, ggX0, beX0, hdX0⟩, noX0⟩)
      (all_cons (⟨⟨gaX1, ggX1, beX1, hdX1, clX1, xhn, xht, obX1⟩, ⟨gaX1, ggX1, beX1, hdX1⟩, noX1⟩)
      (all_cons (⟨⟨gaX2, ggX2, beX2, hdX2, clX2, xhn, xht, obX2⟩, ⟨gaX2, ggX2, beX2, hdX2⟩, noX2⟩)
      (all_cons (⟨⟨gaX3, ggX3, beX3, hdX3, clX3, xhn, xht, obX3⟩, ⟨gaX3, ggX3, beX3, hdX3⟩, noX3⟩)
      (all_cons (⟨⟨gaX4, ggX4, beX4, hdX4, clX4, xhn, xht, obX4⟩, ⟨gaX4, ggX4, beX4, hdX4⟩, noX4⟩)
      (all_cons (⟨⟨gaX5, ggX5, beX5, hdX5, clX5, xhn, xht, obX5⟩, ⟨gaX5, ggX5, beX5, hdX5⟩, noX5⟩)
      (all_cons (⟨⟨gaX6, ggX6, beX6, hdX6, clX6, xhn, xht, obX6⟩, ⟨gaX6, ggX6, beX6, hdX6⟩, noX6⟩)
      (all_cons (⟨⟨gaX7, ggX7, beX7, hdX7, clX7, xhn, xht, obX7⟩, ⟨gaX7, ggX7, beX7, hdX7⟩, noX7⟩)
      (all_cons (⟨⟨gaX8, ggX8, beX8, hdX8, clX8, xhn, xht, obX8⟩, ⟨gaX8, ggX8, beX8, hdX8⟩, noX8⟩)
      (all_cons (⟨⟨gaX9, ggX9, beX9, hdX9, clX9, xhn, xht, obX9⟩, ⟨gaX9, ggX9, beX9, hdX9⟩, noX9⟩)
      (all_cons (⟨⟨gaX10, ggX10, beX10, hdX10, clX10, xhn, xht, obX10⟩, ⟨gaX10, ggX10, beX10, hdX10⟩, noX10⟩)
      (all_cons (⟨⟨gaX11, ggX11, beX11, hdX11, clX11, xhn, xht, obX11⟩, ⟨gaX11, ggX11, beX11, hdX11⟩, noX11⟩)
      (all_cons (⟨⟨gaX12, ggX12, beX12, hdX12, clX12, xhn, xht, obX12⟩, ⟨gaX12, ggX12, beX12, hdX12⟩, noX12⟩)
      (all_cons (⟨⟨gaX13, ggX13, beX13, hdX13, clX13, xhn, xht, obX13⟩, ⟨gaX13, ggX13, beX13, hdX13⟩, noX13⟩)
      (all_cons (⟨⟨gaX14, ggX14, beX14, hdX14, clX14, xhn, xht, obX14⟩, ⟨gaX14, ggX14, beX14, hdX14⟩, noX14⟩)
      (all_cons (⟨⟨gaX15, ggX15, beX15, hdX15, clX15, xhn, xht, obX15⟩, ⟨gaX15, ggX15, beX15, hdX15⟩, noX15⟩)
      (all_cons (⟨⟨gaX16, ggX16, beX16, hdX16, clX16, xhn, xht, obX16⟩, ⟨gaX16, ggX16, beX16, hdX16⟩, noX16⟩)
      (all_cons (⟨⟨gaX17, ggX17, beX17, hdX17, clX17, xhn, xht, obX17⟩, ⟨gaX17, ggX17, beX17, hdX17⟩, noX17⟩)
      (all_cons (⟨⟨gaX18, ggX18, beX18, hdX18, clX18, xhn, xht, obX18⟩, ⟨gaX18, ggX18, beX18, hdX18⟩, noX18⟩)
      (all_cons (⟨⟨gaX19, ggX19, beX19, hdX19, clX19, xhn, xht, obX19⟩, ⟨gaX19, ggX19, beX19, hdX19⟩, noX19⟩)
      (all_cons (⟨⟨gaX20, ggX20, beX20, hdX20, clX20, xhn, xht, obX20⟩, ⟨gaX20, ggX20, beX20, hdX20⟩, noX20⟩)
      (all_cons (⟨⟨gaX21, ggX21, beX21, hdX21, clX21, xhn, xht, obX21⟩, ⟨gaX21, ggX21, beX21, hdX21⟩, noX21⟩)
      (all_cons (⟨⟨gaX22, ggX22, beX22, hdX22, clX22, xhn, xht, obX22⟩, ⟨gaX22, ggX22, beX22, hdX22⟩, noX22⟩)
      (all_cons (⟨⟨gaX23, ggX23, beX23, hdX23, clX23, xhn, xht, obX23⟩, ⟨gaX23, ggX23, beX23, hdX23⟩, noX23⟩)
      (all_cons (⟨⟨gaX24, ggX24, beX24, hdX24, clX24, xhn, xht, obX24⟩, ⟨gaX24, ggX24, beX24, hdX24⟩, noX24⟩)
      (all_cons (⟨⟨gaX25, ggX25, beX25, hdX25, clX25, xhn, xht, obX25⟩, ⟨gaX25, ggX25, beX25, hdX25⟩, noX25⟩)
      (all_cons (⟨⟨gaX26, ggX26, beX26, hdX26, clX26, xhn, xht, obX26⟩, ⟨gaX26, ggX26, beX26, hdX26⟩, noX26⟩)
      (all_cons (⟨⟨gaX27, ggX27, beX27, hdX27, clX27, xhn, xht, obX27⟩, ⟨gaX27, ggX27, beX27, hdX27⟩, noX27⟩)
      (all_cons (⟨⟨gaX28, ggX28, beX28, hdX28, clX28, xhn, xht, obX28⟩, ⟨gaX28, ggX28, beX28, hdX28⟩, noX28⟩)
      (all_cons (⟨⟨gaX29, ggX29, beX29, hdX29, clX29, xhn, xht, obX29⟩, ⟨gaX29, ggX29, beX29, hdX29⟩, noX29⟩)
      (all_cons (⟨⟨gaX30, ggX30, beX30, hdX30, clX30, xhn, xht, obX30⟩, ⟨gaX30, ggX30, beX30, hdX30⟩, noX30⟩)
      (all_cons (⟨⟨gaX31, ggX31, beX31, hdX31, clX31, xhn, xht, obX31⟩, ⟨gaX31, ggX31, beX31, hdX31⟩, noX31⟩)
      (all_cons (⟨⟨gaX32, ggX32, beX32, hdX32, clX32, xhn, xht, obX32⟩, ⟨gaX32, ggX32, beX32, hdX32⟩, noX32⟩)
      (all_cons (⟨⟨gaX33, ggX33, beX33, hdX33, clX33, xhn, xht, obX33⟩, ⟨gaX33, ggX33, beX33, hdX33⟩, noX33⟩)
      (all_nil))))))))))))))))))))))))))))))))))
    own := all_nil
    iso := all_nil
    xv := all_cons (veX0)
      (all_cons (veX1)
      (all_cons (veX2)
      (all_cons (veX3)
      (all_cons (veX4)
      (all_cons (veX5)
      (all_cons (veX6)
      (all_cons (veX7)
      (all_cons (veX8)
      (all_cons (veX9)
      (all_cons (veX10)
      (all_cons (veX11)
      (all_cons (veX12)
      (all_cons (veX13)
      (all_cons (veX14)
      (all_cons (veX15)
      (all_cons (veX16)
      (all_cons (veX17)
      (all_cons (veX18)
      (all_cons (veX19)
      (all_cons (veX20)
      (all_cons (veX21)
      (all_cons (veX22)
      (all_cons (veX23)
      (all_cons (veX24)
      (all_cons (veX25)
      (all_cons (veX26)
      (all_cons (veX27)
      (all_cons (veX28)
      (all_cons (veX29)
      (all_cons (veX30)
      (all_cons (veX31)
      (all_cons (veX32)
      (all_cons (veX33)
      (all_nil))))))))))))))))))))))))))))))))))
    xis := all_cons (⟨_, PySem.W.mg_of X G aX0, ⟨kit_nonX hdX0 tyX0, kit_veX hdX0 tyX0⟩, ktB_of kta (.head _)⟩)
      (all_cons (⟨_, PySem.W.mg_of X G aX2, ⟨kit_nonX hdX2 tyX2, kit_veX hdX2 tyX2⟩, ktB_of kta (.tail _ (.head _))⟩)
      (all_cons (⟨_, PySem.W.mg_of X G aX3, ⟨kit_nonX hdX3 tyX3, kit_veX hdX3 tyX3⟩, ktB_of kta (.tail _ (.tail _ (.head _)))⟩)
      (all_cons (⟨_, PySem.W.mg_of X G aX4, ⟨kit_nonX hdX4 tyX4, kit_veX hdX4 tyX4⟩, ktB_of kta (.tail _ (.tail _ (.tail _ (.head _))))⟩)
      (all_cons (⟨_, PySem.W.mg_of X G aX7, ⟨kit_nonX hdX7 tyX7, kit_veX hdX7 tyX7⟩, ktB_of kta (.tail _ (.tail _ (.tail _ (.tail _ (.head _)))))⟩)
      (all_cons (⟨_, PySem.W.mg_of X G aX8, ⟨kit_nonX hdX8 tyX8, kit_veX hdX8 tyX8⟩, ktB_of kta (.tail _ (.tail _ (.tail _ (.tail _ (.tail _ (.head _))))))⟩)
      (all_cons (⟨_, PySem.W.mg_of X G aX1, ⟨kit_nonX hdX1 tyX1, kit_veX hdX1 tyX1⟩, ktB_of kta (.tail _ (.tail _ (.tail _ (.tail _ (.tail _ (.tail _ (.head _)))))))⟩)
      (all_cons (⟨_, PySem.W.mg_of X G aX12, ⟨kit_nonX hdX12 tyX12, kit_veX hdX12 tyX12⟩, ktB_of kta (.tail _ (.tail _ (.tail _ (.tail _ (.tail _ (.tail _ (.tail _ (.head _))))))))⟩)
      (all_cons (⟨_, PySem.W.mg_of X G aX5, ⟨kit_nonX hdX5 tyX5, kit_veX hdX5 tyX5⟩, ktB_of kta (.tail _ (.tail _ (.tail _ (.tail _ (.tail _ (.tail _ (.tail _ (.tail _ (.head _)))))))))⟩)
      (all_cons (⟨_, PySem.W.mg_of X G aX6, ⟨kit_nonX hdX6 tyX6, kit_veX hdX6 tyX6⟩, ktB_of kta (.tail _ (.tail _ (.tail _ (.tail _ (.tail _ (.tail _ (.tail _ (.tail _ (.tail _ (.head _))))))))))⟩)
      (all_cons (⟨_, PySem.W.mg_of X G aX9, ⟨kit_nonX hdX9 tyX9, kit_veX hdX9 tyX9⟩, ktB_of kta (.tail _ (.tail _ (.tail _ (.tail _ (.tail _ (.tail _ (.tail _ (.tail _ (.tail _ (.tail _ (.head _)))))))))))⟩)
      (all_cons (⟨_, PySem.W.mg_of X G aX10, ⟨kit_nonX hdX10 tyX10, kit_veX hdX10 tyX10⟩, ktB_of kta (.tail _ (.tail _ (.tail _ (.tail _ (.tail _ (.tail _ (.tail _ (.tail _ (.tail _ (.tail _ (.tail _ (.head _))))))))))))⟩)
      (all_cons (⟨_, PySem.W.mg_of X G aX11, ⟨kit_nonX hdX11 tyX11, kit_veX hdX11 tyX11⟩, ktB_of kta (.tail _ (.tail _ (.tail _ (.tail _ (.tail _ (.tail _ (.tail _ (.tail _ (.tail _ (.tail _ (.tail _ (.tail _ (.head _)))))))))))))⟩)
      (all_cons (⟨_, PySem.W.mg_of X G aX14, ⟨kit_nonX hdX14 tyX14, kit_veX hdX14 tyX14⟩, ktB_of kta (.tail _ (.tail _ (.tail _ (.tail _ (.tail _ (.tail _ (.tail _ (.tail _ (.tail _ (.tail _ (.tail _ (.tail _ (.tail _ (.head _))))))))))))))⟩)
      (all_cons (⟨_, PySem.W.mg_of X G aX15, ⟨kit_nonX hdX15 tyX15, kit_veX hdX15 tyX15⟩, ktB_of kta (.tail _ (.tail _ (.tail _ (.tail _ (.tail _ (.tail _ (.tail _ (.tail _ (.tail _ (.tail _ (.tail _ (.tail _ (.tail _ (.tail _ (.head _)))))))))))))))⟩)
      (all_cons (⟨_, PySem.W.mg_of X G aX16, ⟨kit_nonX hdX16 tyX16, kit_veX hdX16 tyX16⟩, ktB_of kta (.tail _ (.tail _ (.tail _ (.tail _ (.tail _ (.tail _ (.tail _ (.tail _ (.tail _ (.tail _ (.tail _ (.tail _ (.tail _ (.tail _ (.tail _ (.head _))))))))))))))))⟩)
      (all_cons (⟨_, PySem.W.mg_of X G aX19, ⟨kit_nonX hdX19 tyX19, kit_veX hdX19 tyX19⟩, ktB_of kta (.tail _ (.tail _ (.tail _ (.tail _ (.tail _ (.tail _ (.tail _ (.tail _ (.tail _ (.tail _ (.tail _ (.tail _ (.tail _ (.tail _ (.tail _ (.tail _ (.head _)))))))))))))))))⟩)
      (all_cons (⟨_, PySem.W.mg_of X G aX20, ⟨kit_nonX hdX20 tyX20, kit_veX hdX20 tyX20⟩, ktB_of kta (.tail _ (.tail _ (.tail _ (.tail _ (.tail _ (.tail _ (.tail _ (.tail _ (.tail _ (.tail _ (.tail _ (.tail _ (.tail _ (.tail _ (.tail _ (.tail _ (.tail _ (.head _))))))))))))))))))⟩)
      (all_cons (⟨_, PySem.W.mg_of X G aX13, ⟨kit_nonX hdX13 tyX13, kit_veX hdX13 tyX13⟩, ktB_of kta (.tail _ (.tail _ (.tail _ (.tail _ (.tail _ (.tail _ (.tail _ (.tail _ (.tail _ (.tail _ (.tail _ (.tail _ (.tail _ (.tail _ (.tail _ (.tail _ (.tail _ (.tail _ (.head _)))))))))))))))))))⟩)
      (all_cons (⟨_, PySem.W.mg_of X G aX24, ⟨kit_nonX hdX24 tyX24, kit_veX hdX24 tyX24⟩, ktB_of kta (.tail _ (.tail _ (.tail _ (.tail _ (.tail _ (.tail _ (.tail _ (.tail _ (.tail _ (.tail _ (.tail _ (.tail _ (.tail _ (.tail _ (.tail _ (.tail _ (.tail _ (.tail _ (.tail _ (.head _))))))))))))))))))))⟩)
      (all_cons (⟨_, PySem.W.mg_of X G aX17, ⟨kit_nonX hdX17 tyX17, kit_veX hdX17 tyX17⟩, ktB_of kta (.tail _ (.tail _ (.tail _ (.tail _ (.tail _ (.tail _ (.tail _ (.tail _ (.tail _ (.tail _ (.tail _ (.tail _ (.tail _ (.tail _ (.tail _ (.tail _ (.tail _ (.tail _ (.tail _ (.tail _ (.head _)))))))))))))))))))))⟩)
      (all_cons (⟨_, PySem.W.mg_of X G aX18, ⟨kit_nonX hdX18 tyX18, kit_veX hdX18 tyX18⟩, ktB_of kta (.tail _ (.tail _ (.tail _ (.tail _ (.tail _ (.tail _ (.tail _ (.tail _ (.tail _ (.tail _ (.tail _ (.tail _ (.tail _ (.tail _ (.tail _ (.tail _ (.tail _ (.tail _ (.tail _ (.tail _ (.tail _ (.head _))))))))))))))))))))))⟩)
      (all_cons (⟨_, PySem.W.mg_of X G aX21, ⟨kit_nonX hdX21 tyX21, kit_veX hdX21 tyX21⟩, ktB_of kta (.tail _ (.tail _ (.tail _ (.tail _ (.tail _ (.tail _ (.tail _ (.tail _ (.tail _ (.tail _ (.tail _ (.tail _ (.tail _ (.tail _ (.tail _ (.tail _ (.tail _ (.tail _ (.tail _ (.tail _ (.tail _ (.tail _ (.head _)))))))))))))))))))))))⟩)
      (all_cons (⟨_, PySem.W.mg_of X G aX22, ⟨kit_nonX hdX22 tyX22, kit_veX hdX22 tyX22⟩, ktB_of kta (.tail _ (.tail _ (.tail _ (.tail _ (.tail _ (.tail _ (.tail _ (.tail _ (.tail _ (.tail _ (.tail _ (.tail _ (.tail _ (.tail _ (.tail _ (.tail _ (.tail _ (.tail _ (.tail _ (.tail _ (.tail _ (.tail _ (.tail _ (.head _))))))))))))))))))))))))⟩)
      (all_cons (⟨_, PySem.W.mg_of X G aX23, ⟨kit_nonX hdX23 tyX23, kit_veX hdX23 tyX23⟩, ktB_of kta (.tail _ (.tail _ (.tail _ (.tail _ (.tail _ (.tail _ (.tail _ (.tail _ (.tail _ (.tail _ (.tail _ (.tail _ (.tail _ (.tail _ (.tail _ (.tail _ (.tail _ (.tail _ (.tail _ (.tail _ (.tail _ (.tail _ (.tail _ (.tail _ (.head _)))))))))))))))))))))))))⟩)
      (all_cons (⟨_, PySem.W.mg_of X G aX26, ⟨kit_nonX hdX26 tyX26, kit_veX hdX26 tyX26⟩, ktB_of kta (.tail _ (.tail _ (.tail _ (.tail _ (.tail _ (.tail _ (.tail _ (.tail _ (.tail _ (.tail _ (.tail _ (.tail _ (.tail _ (.tail _ (.tail _ (.tail _ (.tail _ (.tail _ (.tail _ (.tail _ (.tail _ (.tail _ (.tail _ (.tail _ (.tail _ (.head _))))))))))))))))))))))))))⟩)
      (all_cons (⟨_, PySem.W.mg_of X G aX27, ⟨kit_nonX hdX27 tyX27, kit_veX hdX27 tyX27⟩, ktB_of kta (.tail _ (.tail _ (.tail _ (.tail _ (.tail _ (.tail _ (.tail _ (.tail _ (.tail _ (.tail _ (.tail _ (.tail _ (.tail _ (.tail _ (.tail _ (.tail _ (.tail _ (.tail _ (.tail _ (.tail _ (.tail _ (.tail _ (.tail _ (.tail _ (.tail _ (.tail _ (.head _)))))))))))))))))))))))))))⟩)
      (all_cons (⟨_, PySem.W.mg_of X G aX28, ⟨kit_nonX hdX28 tyX28, kit_veX hdX28 tyX28⟩, ktB_of kta (.tail _ (.tail _ (.tail _ (.tail _ (.tail _ (.tail _ (.tail _ (.tail _ (.tail _ (.tail _ (.tail _ (.tail _ (.tail _ (.tail _ (.tail _ (.tail _ (.tail _ (.tail _ (.tail _ (.tail _ (.tail _ (.tail _ (.tail _ (.tail _ (.tail _ (.tail _ (.tail _ (.head _))))))))))))))))))))))))))))⟩)
      (all_cons (⟨_, PySem.W.mg_of X G aX31, ⟨kit_nonX hdX31 tyX31, kit_veX hdX31 tyX31⟩, ktB_of kta (.tail _ (.tail _ (.tail _ (.tail _ (.tail _ (.tail _ (.tail _ (.tail _ (.tail _ (.tail _ (.tail _ (.tail _ (.tail _ (.tail _ (.tail _ (.tail _ (.tail _ (.tail _ (.tail _ (.tail _ (.tail _ (.tail _ (.tail _ (.tail _ (.tail _ (.tail _ (.tail _ (.tail _ (.head _)))))))))))))))))))))))))))))⟩)
      (all_cons (⟨_, PySem.W.mg_of X G aX32, ⟨kit_nonX hdX32 tyX32, kit_veX hdX32 tyX32⟩, ktB_of kta (.tail _ (.tail _ (.tail _ (.tail _ (.tail _ (.tail _ (.tail _ (.tail _ (.tail _ (.tail _ (.tail _ (.tail _ (.tail _ (.tail _ (.tail _ (.tail _ (.tail _ (.tail _ (.tail _ (.tail _ (.tail _ (.tail _ (.tail _ (.tail _ (.tail _ (.tail _ (.tail _ (.tail _ (.tail _ (.head _))))))))))))))))))))))))))))))⟩)
      (all_cons (⟨_, PySem.W.mg_of X G aX25, ⟨kit_nonX hdX25 tyX25, kit_veX hdX25 tyX25⟩, ktB_of kta (.tail _ (.tail _ (.tail _ (.tail _ (.tail _ (.tail _ (.tail _ (.tail _ (.tail _ (.tail _ (.tail _ (.tail _ (.tail _ (.tail _ (.tail _ (.tail _ (.tail _ (.tail _ (.tail _ (.tail _ (.tail _ (.tail _ (.tail _ (.tail _ (.tail _ (.tail _ (.tail _ (.tail _ (.tail _ (.tail _ (.head _)))))))))))))))))))))))))))))))⟩)
      (all_cons (⟨_, PySem.W.mg_of X G aX33, ⟨kit_nonX hdX33 tyX33, kit_veX hdX33 tyX33⟩, ktB_of kta (.tail _ (.tail _ (.tail _ (.tail _ (.tail _ (.tail _ (.tail _ (.tail _ (.tail _ (.tail _ (.tail _ (.tail _ (.tail _ (.tail _ (.tail _ (.tail _ (.tail _ (.tail _ (.tail _ (.tail _ (.tail _ (.tail _ (.tail _ (.tail _ (.tail _ (.tail _ (.tail _ (.tail _ (.tail _ (.tail _ (.tail _ (.head _))))))))))))))))))))))))))))))))⟩)
      (all_cons (⟨_, PySem.W.mg_of X G aX29, ⟨kit_nonX hdX29 tyX29, kit_veX hdX29 tyX29⟩, ktB_of kta (.tail _ (.tail _ (.tail _ (.tail _ (.tail _ (.tail _ (.tail _ (.tail _ (.tail _ (.tail _ (.tail _ (.tail _ (.tail _ (.tail _ (.tail _ (.tail _ (.tail _ (.tail _ (.tail _ (.tail _ (.tail _ (.tail _ (.tail _ (.tail _ (.tail _ (.tail _ (.tail _ (.tail _ (.tail _ (.tail _ (.tail _ (.tail _ (.head _)))))))))))))))))))))))))))))))))⟩)
      (all_cons (⟨_, PySem.W.mg_of X G aX30, ⟨kit_nonX hdX30 tyX30, kit_veX hdX30 tyX30⟩, ktB_of kta (.tail _ (.tail _ (.tail _ (.tail _ (.tail _ (.tail _ (.tail _ (.tail _ (.tail _ (.tail _ (.tail _ (.tail _ (.tail _ (.tail _ (.tail _ (.tail _ (.tail _ (.tail _ (.tail _ (.tail _ (.tail _ (.tail _ (.tail _ (.tail _ (.tail _ (.tail _ (.tail _ (.tail _ (.tail _ (.tail _ (.tail _ (.tail _ (.tail _ (.head _))))))))))))))))))))))))))))))))))⟩)
      (all_nil)))))))))))))))))))))))))))))))))) }
  refine ⟨[], all_nil, all_nil, all_nil, fun base KB TB => ?_⟩
  have hh : ∀ f ∈ dat.hrd, HeardOk (dat.tab l.prog w K mg base adT clT xcT tabs) f := all_nil
  refine ⟨dat.tab l.prog w K mg base adT clT xcT tabs, rfl, rfl, rfl, rfl, rfl, rfl, all_nil, tok_of Fx hh, ?_, rfl⟩
  have D : ∀ p ∈ adT, DefOk (dat.tab l.prog w K mg base adT clT xcT tabs) p.1 p.2 := all_cons (def_at ok__law_is_kept lf0 cf0 kf0 (fun _ _ _ _ _ _ us hl => match us, hl with | [_], _ => rfl) (fun z => absurd z (by decide +kernel)))
      (all_cons (def_at ok__law_made lf1 cf1 kf1 (fun _ _ _ _ _ _ us hl => match us, hl with | [_], _ => rfl) (fun z => absurd z (by decide +kernel)))
      (all_cons (def_at ok__law_marked lf2 cf2 kf2 (fun _ _ _ _ _ _ us hl => match us, hl with | [_], _ => rfl) (fun z => absurd z (by decide +kernel)))
      (all_cons (def_at ok_law lf3 cf3 kf3 (fun _ _ _ _ _ _ us hl => match us, hl with | [_], _ => rfl) (fun z => absurd z (by decide +kernel)))
      (all_nil))))
  exact fun q a e => D (q, a) (mem_lk e)
end Law0
-- H0
namespace Law0
open Mi
theorem hks : kindsOk dat.P = true := by decide +kernel
theorem hall : HasK0 dat.P := ⟨Snd.rp_has _ rfl, rfl, rfl, rfl, hks⟩
theorem holds : ∀ ns : List Int, ns.length ≤ 63 → (∀ z ∈ ns, PySem.Builtin.Int.intBits z ≤ 1048576) → Mi.sem dat.P 46 "law" [.lsv (ns.map Mi.MV.int)] [] (fun v _ => v = .bl true) Snd.NoX :=
  fun ns _ _ => law0_ok hall rfl (by omega) ns
end Law0
-- E0
open PySem PySem.W PyProof.Rows
set_option maxRecDepth 100000 in
set_option maxHeartbeats 0 in
theorem PySem.Challenge.cw_boxtalks_k00_errors_keep_their_value_holds : PySem.Challenge.rw_boxtalks_k00_errors_keep_their_value.Holds := by
  w_on; o_law; k_head; (case hw => w_witness2)
  k_fill
  refine Snd.walkG (l := PySem.Challenge.rw_boxtalks_k00_errors_keep_their_value) (k := 46) (P := Law0.dat.P) rfl rfl ⟨rfl, by decide, by decide⟩ (fun w h Y => by first | exact PySem.W.kIn_of Y | exact Y.1) ?F ?P
  case P => exact Law0.holds
  case F =>
    intro w mg fa h base KX G hmg Tb
    refine' Law0.all_mk KX G hmg Tb ?af0 ?lf0 ?cf0 ?kf0 ?af1 ?lf1 ?cf1 ?kf1 ?af2 ?lf2 ?cf2 ?kf2 ?af3 ?lf3 ?cf3 ?kf3 ?aX0 ?aX1 ?aX2 ?aX3 ?aX4 ?aX5 ?aX6 ?aX7 ?aX8 ?aX9 ?aX10 ?aX11 ?aX12 ?aX13 ?aX14 ?aX15 ?aX16 ?aX17 ?aX18 ?aX19 ?aX20 ?aX21 ?aX22 ?aX23 ?aX24 ?aX25 ?aX26 ?aX27 ?aX28 ?aX29 ?aX30 ?aX31 ?aX32 ?aX33 ?ist ?itop ?aI ?ity ?il ?ic ?ica ?iv ?ifl ?icc ?icd ?isu ?xhn ?xht ?lX0 ?rvX0 ?saX0 ?beX0 ?tyX0 ?kcX0 ?veX0 ?noX0 ?mrX0 ?suX0 ?gaX0 ?ggX0 ?hdX0 ?clX0 ?obX0 ?lX1 ?rvX1 ?saX1 ?beX1 ?tyX1 ?kcX1 ?veX1 ?noX1 ?iiX1 ?mrX1 ?suX1 ?gaX1 ?ggX1 ?hdX1 ?clX1 ?obX1 ?lX2 ?rvX2 ?saX2 ?beX2 ?tyX2 ?kcX2 ?veX2 ?noX2 ?iiX2 ?mrX2 ?suX2 ?gaX2 ?ggX2 ?hdX2 ?clX2 ?obX2 ?lX3 ?rvX3 ?saX3 ?beX3 ?tyX3 ?kcX3 ?veX3 ?noX3 ?iiX3 ?mrX3 ?suX3 ?gaX3 ?ggX3 ?hdX3 ?clX3 ?obX3 ?lX4 ?rvX4 ?saX4 ?beX4 ?tyX4 ?kcX4 ?veX4 ?noX4 ?iiX4 ?mrX4 ?suX4 ?gaX4 ?ggX4 ?hdX4 ?clX4 ?obX4 ?lX5 ?rvX5 ?saX5 ?beX5 ?tyX5 ?kcX5 ?veX5 ?noX5 ?iiX5 ?mrX5 ?suX5 ?gaX5 ?ggX5 ?hdX5 ?clX5 ?obX5 ?lX6 ?rvX6 ?saX6 ?beX6 ?tyX6 ?kcX6 ?veX6 ?noX6 ?iiX6 ?mrX6 ?suX6 ?gaX6 ?ggX6 ?hdX6 ?clX6 ?obX6 ?lX7 ?rvX7 ?saX7 ?beX7 ?tyX7 ?kcX7 ?veX7 ?noX7 ?iiX7 ?mrX7 ?suX7 ?gaX7 ?ggX7 ?hdX7 ?clX7 ?obX7 ?lX8 ?rvX8 ?saX8 ?beX8 ?tyX8 ?kcX8 ?veX8 ?noX8 ?iiX8 ?mrX8 ?suX8 ?gaX8 ?ggX8 ?hdX8 ?clX8 ?obX8 ?lX9 ?rvX9 ?saX9 ?beX9 ?tyX9 ?kcX9 ?veX9 ?noX9 ?iiX9 ?mrX9 ?suX9 ?gaX9 ?ggX9 ?hdX9 ?clX9 ?obX9 ?lX10 ?rvX10 ?saX10 ?beX10 ?tyX10 ?kcX10 ?veX10 ?noX10 ?iiX10 ?mrX10 ?suX10 ?gaX10 ?ggX10 ?hdX10 ?clX10 ?obX10 ?lX11 ?rvX11 ?saX11 ?beX11 ?tyX11 ?kcX11 ?veX11 ?noX11 ?iiX11 ?mrX11 ?suX11 ?gaX11 ?ggX11 ?hdX11 ?clX11 ?obX11 ?lX12 ?rvX12 ?saX12 ?beX12 ?tyX12 ?kcX12 ?veX12 ?noX12 ?iiX12 ?mrX12 ?suX12 ?gaX12 ?ggX12 ?hdX12 ?clX12 ?obX12 ?lX13 ?rvX13 ?saX13 ?beX13 ?tyX13 ?kcX13 ?veX13 ?noX13 ?iiX13 ?mrX13 ?suX13 ?gaX13 ?ggX13 ?hdX13 ?clX13 ?obX13 ?lX14 ?rvX14 ?saX14 ?beX14 ?tyX14 ?kcX14 ?veX14 ?noX14 ?iiX14 ?mrX14 ?suX14 ?gaX14 ?ggX14 ?hdX14 ?clX14 ?obX14 ?lX15 ?rvX15 ?saX15 ?beX15 ?tyX15 ?kcX15 ?veX15 ?noX15 ?iiX15 ?mrX15 ?suX15 ?gaX15 ?ggX15 ?hdX15 ?clX15 ?obX15 ?lX16 ?rvX16 ?saX16 ?beX16 ?tyX16 ?kcX16 ?veX16 ?noX16 ?iiX16 ?mrX16 ?suX16 ?gaX16 ?ggX16 ?hdX16 ?clX16 ?obX16 ?lX17 ?rvX17 ?saX17 ?beX17 ?tyX17 ?kcX17 ?veX17 ?noX17 ?iiX17 ?mrX17 ?suX17 ?gaX17 ?ggX17 ?hdX17 ?clX17 ?obX17 ?lX18 ?rvX18 ?saX18 ?beX18 ?tyX18 ?kcX18 ?veX18 ?noX18 ?iiX18 ?mrX18 ?suX18 ?gaX18 ?ggX18 ?hdX18 ?clX18 ?obX18 ?lX19 ?rvX19 ?saX19 ?beX19 ?tyX19 ?kcX19 ?veX19 ?noX19 ?iiX19 ?mrX19 ?suX19 ?gaX19 ?ggX19 ?hdX19 ?clX19 ?obX19 ?lX20 ?rvX20 ?saX20 ?beX20 ?tyX20 ?kcX20 ?veX20 ?noX20 ?iiX20 ?mrX20 ?suX20 ?gaX20 ?ggX20 ?hdX20 ?clX20 ?obX20 ?lX21 ?rvX21 ?saX21 ?beX21 ?tyX21 ?kcX21 ?veX21 ?noX21 ?iiX21 ?mrX21 ?suX21 ?gaX21 ?ggX21 ?hdX21 ?clX21 ?obX21 ?lX22 ?rvX22 ?saX22 ?beX22 ?tyX22 ?kcX22 ?veX22 ?noX22 ?iiX22 ?mrX22 ?suX22 ?gaX22 ?ggX22 ?hdX22 ?clX22 ?obX22 ?lX23 ?rvX23 ?saX23 ?beX23 ?tyX23 ?kcX23 ?veX23 ?noX23 ?iiX23 ?mrX23 ?suX23 ?gaX23 ?ggX23 ?hdX23 ?clX23 ?obX23 ?lX24 ?rvX24 ?saX24 ?beX24 ?tyX24 ?kcX24 ?veX24 ?noX24 ?iiX24 ?mrX24 ?suX24 ?gaX24 ?ggX24 ?hdX24 ?clX24 ?obX24 ?lX25 ?rvX25 ?saX25 ?beX25 ?tyX25 ?kcX25 ?veX25 ?noX25 ?iiX25 ?mrX25 ?suX25 ?gaX25 ?ggX25 ?hdX25 ?clX25 ?obX25 ?lX26 ?rvX26 ?saX26 ?beX26 ?tyX26 ?kcX26 ?veX26 ?noX26 ?iiX26 ?mrX26 ?suX26 ?gaX26 ?ggX26 ?hdX26 ?clX26 ?obX26 ?lX27 ?rvX27 ?saX27 ?beX27 ?tyX27 ?kcX27 ?veX27 ?noX27 ?iiX27 ?mrX27 ?suX27 ?gaX27 ?ggX27 ?hdX27 ?clX27 ?obX27 ?lX28 ?rvX28 ?saX28 ?beX28 ?tyX28 ?kcX28 ?veX28 ?noX28 ?iiX28 ?mrX28 ?suX28 ?gaX28 ?ggX28 ?hdX28 ?clX28 ?obX28 ?lX29 ?rvX29 ?saX29 ?beX29 ?tyX29 ?kcX29 ?veX29 ?noX29 ?iiX29 ?mrX29 ?suX29 ?gaX29 ?ggX29 ?hdX29 ?clX29 ?obX29 ?lX30 ?rvX30 ?saX30 ?beX30 ?tyX30 ?kcX30 ?veX30 ?noX30 ?iiX30 ?mrX30 ?suX30 ?gaX30 ?ggX30 ?hdX30 ?clX30 ?obX30 ?lX31 ?rvX31 ?saX31 ?beX31 ?tyX31 ?kcX31 ?veX31 ?noX31 ?iiX31 ?mrX31 ?suX31 ?gaX31 ?ggX31 ?hdX31 ?clX31 ?obX31 ?lX32 ?rvX32 ?saX32 ?beX32 ?tyX32 ?kcX32 ?veX32 ?noX32 ?iiX32 ?mrX32 ?suX32 ?gaX32 ?ggX32 ?hdX32 ?clX32 ?obX32 ?lX33 ?rvX33 ?saX33 ?beX33 ?tyX33 ?kcX33 ?veX33 ?noX33 ?iiX33 ?mrX33 ?suX33 ?gaX33 ?ggX33 ?hdX33 ?clX33 ?obX33 ?kta ?z0 ?z1 ?z2 ?z3 ?z4 ?z5 ?z6 ?z7 ?z8 ?z9 ?z10 ?z11 ?z12 ?z13 ?z14 ?z15 ?z16 ?z17 ?z18 ?z19 ?z20
    (case af0 => k_is)
    (case lf0 => k_is)
    (case cf0 => k_is)
    (case kf0 => k_is)
    (case af1 => k_is)
    (case lf1 => k_is)
    (case cf1 => k_is)
    (case kf1 => k_is)
    (case af2 => k_is)
    (case lf2 => k_is)
    (case cf2 => k_is)
    (case kf2 => k_is)
    (case af3 => k_is)
    (case lf3 => k_is)
    (case cf3 => k_is)
    (case kf3 => k_is)
    (case aX0 => k_is)
    (case aX1 => k_is)
    (case aX2 => k_is)
    (case aX3 => k_is)
    (case aX4 => k_is)
    (case aX5 => k_is)
    (case aX6 => k_is)
    (case aX7 => k_is)
    (case aX8 => k_is)
    (case aX9 => k_is)
    (case aX10 => k_is)
    (case aX11 => k_is)
    (case aX12 => k_is)
    (case aX13 => k_is)
    (case aX14 => k_is)
    (case aX15 => k_is)
    (case aX16 => k_is)
    (case aX17 => k_is)
    (case aX18 => k_is)
    (case aX19 => k_is)
    (case aX20 => k_is)
    (case aX21 => k_is)
    (case aX22 => k_is)
    (case aX23 => k_is)
    (case aX24 => k_is)
    (case aX25 => k_is)
    (case aX26 => k_is)
    (case aX27 => k_is)
    (case aX28 => k_is)
    (case aX29 => k_is)
    (case aX30 => k_is)
    (case aX31 => k_is)
    (case aX32 => k_is)
    (case aX33 => k_is)
    (case ist => k_is)
    (case itop => first | decide +kernel | rfl)
    (case aI => k_is)
    (case ity => k_is)
    (case il => k_is)
    (case ic => k_is)
    (case ica => k_is)
    (case iv => first | rfl | k_is)
    (case ifl => first | decide +kernel | rfl)
    (case icc => k_is)
    (case icd => first | rfl | k_is)
    (case isu => k_is)
    (case xhn => k_is)
    (case xht => k_is)
    (case lX0 => k_is)
    (case rvX0 => first | rfl | k_is)
    (case saX0 => k_is)
    (case beX0 => k_is)
    (case tyX0 => k_is)
    (case kcX0 => k_is)
    (case veX0 => k_is)
    (case noX0 => k_is)
    (case mrX0 => first | k_is | rfl)
    (case suX0 => first | k_is | rfl)
    (case gaX0 => k_is)
    (case ggX0 => k_is)
    (case hdX0 => k_is)
    (case clX0 => k_is)
    (case obX0 => first | k_is | rfl)
    (case lX1 => k_is)
    (case rvX1 => first | rfl | k_is)
    (case saX1 => k_is)
    (case beX1 => k_is)
    (case tyX1 => k_is)
    (case kcX1 => k_is)
    (case veX1 => k_is)
    (case noX1 => k_is)
    (case iiX1 => k_is)
    (case mrX1 => first | k_is | rfl)
    (case suX1 => first | k_is | rfl)
    (case gaX1 => k_is)
    (case ggX1 => k_is)
    (case hdX1 => k_is)
    (case clX1 => k_is)
    (case obX1 => first | k_is | rfl)
    (case lX2 => k_is)
    (case rvX2 => first | rfl | k_is)
    (case saX2 => k_is)
    (case beX2 => k_is)
    (case tyX2 => k_is)
    (case kcX2 => k_is)
    (case veX2 => k_is)
    (case noX2 => k_is)
    (case iiX2 => k_is)
    (case mrX2 => first | k_is | rfl)
    (case suX2 => first | k_is | rfl)
    (case gaX2 => k_is)
    (case ggX2 => k_is)
    (case hdX2 => k_is)
    (case clX2 => k_is)
    (case obX2 => first | k_is | rfl)
    (case lX3 => k_is)
    (case rvX3 => first | rfl | k_is)
    (case saX3 => k_is)
    (case beX3 => k_is)
    (case tyX3 => k_is)
    (case kcX3 => k_is)
    (case veX3 => k_is)
    (case noX3 => k_is)
    (case iiX3 => k_is)
    (case mrX3 => first | k_is | rfl)
    (case suX3 => first | k_is | rfl)
    (case gaX3 => k_is)
    (case ggX3 => k_is)
    (case hdX3 => k_is)
    (case clX3 => k_is)
    (case obX3 => first | k_is | rfl)
    (case lX4 => k_is)
    (case rvX4 => first | rfl | k_is)
    (case saX4 => k_is)
    (case beX4 => k_is)
    (case tyX4 => k_is)
    (case kcX4 => k_is)
    (case veX4 => k_is)
    (case noX4 => k_is)
    (case iiX4 => k_is)
    (case mrX4 => first | k_is | rfl)
    (case suX4 => first | k_is | rfl)
    (case gaX4 => k_is)
    (case ggX4 => k_is)
    (case hdX4 => k_is)
    (case clX4 => k_is)
    (case obX4 => first | k_is | rfl)
    (case lX5 => k_is)
    (case rvX5 => first | rfl | k_is)
    (case saX5 => k_is)
    (case beX5 => k_is)
    (case tyX5 => k_is)
    (case kcX5 => k_is)
    (case veX5 => k_is)
    (case noX5 => k_is)
    (case iiX5 => k_is)
    (case mrX5 => first | k_is | rfl)
    (case suX5 => first | k_is | rfl)
    (case gaX5 => k_is)
    (case ggX5 => k_is)
    (case hdX5 => k_is)
    (case clX5 => k_is)
    (case obX5 => first | k_is | rfl)
    (case lX6 => k_is)
    (case rvX6 => first | rfl | k_is)
    (case saX6 => k_is)
    (case beX6 => k_is)
    (case tyX6 => k_is)
    (case kcX6 => k_is)
    (case veX6 => k_is)
    (case noX6 => k_is)
    (case iiX6 => k_is)
    (case mrX6 => first | k_is | rfl)
    (case suX6 => first | k_is | rfl)
    (case gaX6 => k_is)
    (case ggX6 => k_is)
    (case hdX6 => k_is)
    (case clX6 => k_is)
    (case obX6 => first | k_is | rfl)
    (case lX7 => k_is)
    (case rvX7 => first | rfl | k_is)
    (case saX7 => k_is)
    (case beX7 => k_is)
    (case tyX7 => k_is)
    (case kcX7 => k_is)
    (case veX7 => k_is)
    (case noX7 => k_is)
    (case iiX7 => k_is)
    (case mrX7 => first | k_is | rfl)
    (case suX7 => first | k_is | rfl)
    (case gaX7 => k_is)
    (case ggX7 => k_is)
    (case hdX7 => k_is)
    (case clX7 => k_is)
    (case obX7 => first | k_is | rfl)
    (case lX8 => k_is)
    (case rvX8 => first | rfl | k_is)
    (case saX8 => k_is)
    (case beX8 => k_is)
    (case tyX8 => k_is)
    (case kcX8 => k_is)
    (case veX8 => k_is)
    (case noX8 => k_is)
    (case iiX8 => k_is)
    (case mrX8 => first | k_is | rfl)
    (case suX8 => first | k_is | rfl)
    (case gaX8 => k_is)
    (case ggX8 => k_is)
    (case hdX8 => k_is)
    (case clX8 => k_is)
    (case obX8 => first | k_is | rfl)
    (case lX9 => k_is)
    (case rvX9 => first | rfl | k_is)
    (case saX9 => k_is)
    (case beX9 => k_is)
    (case tyX9 => k_is)
    (case kcX9 => k_is)
    (case veX9 => k_is)
    (case noX9 => k_is)
    (case iiX9 => k_is)
    (case mrX9 => first | k_is | rfl)
    (case suX9 => first | k_is | rfl)
    (case gaX9 => k_is)
    (case ggX9 => k_is)
    (case hdX9 => k_is)
    (case clX9 => k_is)
    (case obX9 => first | k_is | rfl)
    (case lX10 => k_is)
    (case rvX10 => first | rfl | k_is)
    (case saX10 => k_is)
    (case beX10 => k_is)
    (case tyX10 => k_is)
    (case kcX10 => k_is)
    (case veX10 => k_is)
    (case noX10 => k_is)
    (case iiX10 => k_is)
    (case mrX10 => first | k_is | rfl)
    (case suX10 => first | k_is | rfl)
    (case gaX10 => k_is)
    (case ggX10 => k_is)
    (case hdX10 => k_is)
    (case clX10 => k_is)
    (case obX10 => first | k_is | rfl)
    (case lX11 => k_is)
    (case rvX11 => first | rfl | k_is)
    (case saX11 => k_is)
    (case beX11 => k_is)
    (case tyX11 => k_is)
    (case kcX11 => k_is)
    (case veX11 => k_is)
    (case noX11 => k_is)
    (case iiX11 => k_is)
    (case mrX11 => first | k_is | rfl)
    (case suX11 => first | k_is | rfl)
    (case gaX11 => k_is)
    (case ggX11 => k_is)
    (case hdX11 => k_is)
    (case clX11 => k_is)
    (case obX11 => first | k_is | rfl)
    (case lX12 => k_is)
    (case rvX12 => first | rfl | k_is)
    (case saX12 => k_is)
    (case beX12 => k_is)
    (case tyX12 => k_is)
    (case kcX12 => k_is)
    (case veX12 => k_is)
    (case noX12 => k_is)
    (case iiX12 => k_is)
    (case mrX12 => first | k_is | rfl)
    (case suX12 => first | k_is | rfl)
    (case gaX12 => k_is)
    (case ggX12 => k_is)
    (case hdX12 => k_is)
    (case clX12 => k_is)
    (case obX12 => first | k_is | rfl)
    (case lX13 => k_is)
    (case rvX13 => first | rfl | k_is)
    (case saX13 => k_is)
    (case beX13 => k_is)
    (case tyX13 => k_is)
    (case kcX13 => k_is)
    (case veX13 => k_is)
    (case noX13 => k_is)
    (case iiX13 => k_is)
    (case mrX13 => first | k_is | rfl)
    (case suX13 => first | k_is | rfl)
    (case gaX13 => k_is)
    (case ggX13 => k_is)
    (case hdX13 => k_is)
    (case clX13 => k_is)
    (case obX13 => first | k_is | rfl)
    (case lX14 => k_is)
    (case rvX14 => first | rfl | k_is)
    (case saX14 => k_is)
    (case beX14 => k_is)
    (case tyX14 => k_is)
    (case kcX14 => k_is)
    (case veX14 => k_is)
    (case noX14 => k_is)
    (case iiX14 => k_is)
    (case mrX14 => first | k_is | rfl)
    (case suX14 => first | k_is | rfl)
    (case gaX14 => k_is)
    (case ggX14 => k_is)
    (case hdX14 => k_is)
    (case clX14 => k_is)
    (case obX14 => first | k_is | rfl)
    (case lX15 => k_is)
    (case rvX15 => first | rfl | k_is)
    (case saX15 => k_is)
    (case beX15 => k_is)
    (case tyX15 => k_is)
    (case kcX15 => k_is)
    (case veX15 => k_is)
    (case noX15 => k_is)
    (case iiX15 => k_is)
    (case mrX15 => first | k_is | rfl)
    (case suX15 => first | k_is | rfl)
    (case gaX15 => k_is)
    (case ggX15 => k_is)
    (case hdX15 => k_is)
    (case clX15 => k_is)
    (case obX15 => first | k_is | rfl)
    (case lX16 => k_is)
    (case rvX16 => first | rfl | k_is)
    (case saX16 => k_is)
    (case beX16 => k_is)
    (case tyX16 => k_is)
    (case kcX16 => k_is)
    (case veX16 => k_is)
    (case noX16 => k_is)
    (case iiX16 => k_is)
    (case mrX16 => first | k_is | rfl)
    (case suX16 => first | k_is | rfl)
    (case gaX16 => k_is)
    (case ggX16 => k_is)
    (case hdX16 => k_is)
    (case clX16 => k_is)
    (case obX16 => first | k_is | rfl)
    (case lX17 => k_is)
    (case rvX17 => first | rfl | k_is)
    (case saX17 => k_is)
    (case beX17 => k_is)
    (case tyX17 => k_is)
    (case kcX17 => k_is)
    (case veX17 => k_is)
    (case noX17 => k_is)
    (case iiX17 => k_is)
    (case mrX17 => first | k_is | rfl)
    (case suX17 => first | k_is | rfl)
    (case gaX17 => k_is)
    (case ggX17 => k_is)
    (case hdX17 => k_is)
    (case clX17 => k_is)
    (case obX17 => first | k_is | rfl)
    (case lX18 => k_is)
    (case rvX18 => first | rfl | k_is)
    (case saX18 => k_is)
    (case beX18 => k_is)
    (case tyX18 => k_is)
    (case kcX18 => k_is)
    (case veX18 => k_is)
    (case noX18 => k_is)
    (case iiX18 => k_is)
    (case mrX18 => first | k_is | rfl)
    (case suX18 => first | k_is | rfl)
    (case gaX18 => k_is)
    (case ggX18 => k_is)
    (case hdX18 => k_is)
    (case clX18 => k_is)
    (case obX18 => first | k_is | rfl)
    (case lX19 => k_is)
    (case rvX19 => first | rfl | k_is)
    (case saX19 => k_is)
    (case beX19 => k_is)
    (case tyX19 => k_is)
    (case kcX19 => k_is)
    (case veX19 => k_is)
    (case noX19 => k_is)
    (case iiX19 => k_is)
    (case mrX19 => first | k_is | rfl)
    (case suX19 => first | k_is | rfl)
    (case gaX19 => k_is)
    (case ggX19 => k_is)
    (case hdX19 => k_is)
    (case clX19 => k_is)
    (case obX19 => first | k_is | rfl)
    (case lX20 => k_is)
    (case rvX20 => first | rfl | k_is)
    (case saX20 => k_is)
    (case beX20 => k_is)
    (case tyX20 => k_is)
    (case kcX20 => k_is)
    (case veX20 => k_is)
    (case noX20 => k_is)
    (case iiX20 => k_is)
    (case mrX20 => first | k_is | rfl)
    (case suX20 => first | k_is | rfl)
    (case gaX20 => k_is)
    (case ggX20 => k_is)
    (case hdX20 => k_is)
    (case clX20 => k_is)
    (case obX20 => first | k_is | rfl)
    (case lX21 => k_is)
    (case rvX21 => first | rfl | k_is)
    (case saX21 => k_is)
    (case beX21 => k_is)
    (case tyX21 => k_is)
    (case kcX21 => k_is)
    (case veX21 => k_is)
    (case noX21 => k_is)
    (case iiX21 => k_is)
    (case mrX21 => first | k_is | rfl)
    (case suX21 => first | k_is | rfl)
    (case gaX21 => k_is)
    (case ggX21 => k_is)
    (case hdX21 => k_is)
    (case clX21 => k_is)
    (case obX21 => first | k_is | rfl)
    (case lX22 => k_is)
    (case rvX22 => first | rfl | k_is)
    (case saX22 => k_is)
    (case beX22 => k_is)
    (case tyX22 => k_is)
    (case kcX22 => k_is)
    (case veX22 => k_is)
    (case noX22 => k_is)
    (case iiX22 => k_is)
    (case mrX22 => first | k_is | rfl)
    (case suX22 => first | k_is | rfl)
    (case gaX22 => k_is)
    (case ggX22 => k_is)
    (case hdX22 => k_is)
    (case clX22 => k_is)
    (case obX22 => first | k_is | rfl)
    (case lX23 => k_is)
    (case rvX23 => first | rfl | k_is)
    (case saX23 => k_is)
    (case beX23 => k_is)
    (case tyX23 => k_is)
    (case kcX23 => k_is)
    (case veX23 => k_is)
    (case noX23 => k_is)
    (case iiX23 => k_is)
    (case mrX23 => first | k_is | rfl)
    (case suX23 => first | k_is | rfl)
    (case gaX23 => k_is)
    (case ggX23 => k_is)
    (case hdX23 => k_is)
    (case clX23 => k_is)
    (case obX23 => first | k_is | rfl)
    (case lX24 => k_is)
    (case rvX24 => first | rfl | k_is)
    (case saX24 => k_is)
    (case beX24 => k_is)
    (case tyX24 => k_is)
    (case kcX24 => k_is)
    (case veX24 => k_is)
    (case noX24 => k_is)
    (case iiX24 => k_is)
    (case mrX24 => first | k_is | rfl)
    (case suX24 => first | k_is | rfl)
    (case gaX24 => k_is)
    (case ggX24 => k_is)
    (case hdX24 => k_is)
    (case clX24 => k_is)
    (case obX24 => first | k_is | rfl)
    (case lX25 => k_is)
    (case rvX25 => first | rfl | k_is)
    (case saX25 => k_is)
    (case beX25 => k_is)
    (case tyX25 => k_is)
    (case kcX25 => k_is)
    (case veX25 => k_is)
    (case noX25 => k_is)
    (case iiX25 => k_is)
    (case mrX25 => first | k_is | rfl)
    (case suX25 => first | k_is | rfl)
    (case gaX25 => k_is)
    (case ggX25 => k_is)
    (case hdX25 => k_is)
    (case clX25 => k_is)
    (case obX25 => first | k_is | rfl)
    (case lX26 => k_is)
    (case rvX26 => first | rfl | k_is)
    (case saX26 => k_is)
    (case beX26 => k_is)
    (case tyX26 => k_is)
    (case kcX26 => k_is)
    (case veX26 => k_is)
    (case noX26 => k_is)
    (case iiX26 => k_is)
    (case mrX26 => first | k_is | rfl)
    (case suX26 => first | k_is | rfl)
    (case gaX26 => k_is)
    (case ggX26 => k_is)
    (case hdX26 => k_is)
    (case clX26 => k_is)
    (case obX26 => first | k_is | rfl)
    (case lX27 => k_is)
    (case rvX27 => first | rfl | k_is)
    (case saX27 => k_is)
    (case beX27 => k_is)
    (case tyX27 => k_is)
    (case kcX27 => k_is)
    (case veX27 => k_is)
    (case noX27 => k_is)
    (case iiX27 => k_is)
    (case mrX27 => first | k_is | rfl)
    (case suX27 => first | k_is | rfl)
    (case gaX27 => k_is)
    (case ggX27 => k_is)
    (case hdX27 => k_is)
    (case clX27 => k_is)
    (case obX27 => first | k_is | rfl)
    (case lX28 => k_is)
    (case rvX28 => first | rfl | k_is)
    (case saX28 => k_is)
    (case beX28 => k_is)
    (case tyX28 => k_is)
    (case kcX28 => k_is)
    (case veX28 => k_is)
    (case noX28 => k_is)
    (case iiX28 => k_is)
    (case mrX28 => first | k_is | rfl)
    (case suX28 => first | k_is | rfl)
    (case gaX28 => k_is)
    (case ggX28 => k_is)
    (case hdX28 => k_is)
    (case clX28 => k_is)
    (case obX28 => first | k_is | rfl)
    (case lX29 => k_is)
    (case rvX29 => first | rfl | k_is)
    (case saX29 => k_is)
    (case beX29 => k_is)
    (case tyX29 => k_is)
    (case kcX29 => k_is)
    (case veX29 => k_is)
    (case noX29 => k_is)
    (case iiX29 => k_is)
    (case mrX29 => first | k_is | rfl)
    (case suX29 => first | k_is | rfl)
    (case gaX29 => k_is)
    (case ggX29 => k_is)
    (case hdX29 => k_is)
    (case clX29 => k_is)
    (case obX29 => first | k_is | rfl)
    (case lX30 => k_is)
    (case rvX30 => first | rfl | k_is)
    (case saX30 => k_is)
    (case beX30 => k_is)
    (case tyX30 => k_is)
    (case kcX30 => k_is)
    (case veX30 => k_is)
    (case noX30 => k_is)
    (case iiX30 => k_is)
    (case mrX30 => first | k_is | rfl)
    (case suX30 => first | k_is | rfl)
    (case gaX30 => k_is)
    (case ggX30 => k_is)
    (case hdX30 => k_is)
    (case clX30 => k_is)
    (case obX30 => first | k_is | rfl)
    (case lX31 => k_is)
    (case rvX31 => first | rfl | k_is)
    (case saX31 => k_is)
    (case beX31 => k_is)
    (case tyX31 => k_is)
    (case kcX31 => k_is)
    (case veX31 => k_is)
    (case noX31 => k_is)
    (case iiX31 => k_is)
    (case mrX31 => first | k_is | rfl)
    (case suX31 => first | k_is | rfl)
    (case gaX31 => k_is)
    (case ggX31 => k_is)
    (case hdX31 => k_is)
    (case clX31 => k_is)
    (case obX31 => first | k_is | rfl)
    (case lX32 => k_is)
    (case rvX32 => first | rfl | k_is)
    (case saX32 => k_is)
    (case beX32 => k_is)
    (case tyX32 => k_is)
    (case kcX32 => k_is)
    (case veX32 => k_is)
    (case noX32 => k_is)
    (case iiX32 => k_is)
    (case mrX32 => first | k_is | rfl)
    (case suX32 => first | k_is | rfl)
    (case gaX32 => k_is)
    (case ggX32 => k_is)
    (case hdX32 => k_is)
    (case clX32 => k_is)
    (case obX32 => first | k_is | rfl)
    (case lX33 => k_is)
    (case rvX33 => first | rfl | k_is)
    (case saX33 => k_is)
    (case beX33 => k_is)
    (case tyX33 => k_is)
    (case kcX33 => k_is)
    (case veX33 => k_is)
    (case noX33 => k_is)
    (case iiX33 => k_is)
    (case mrX33 => first | k_is | rfl)
    (case suX33 => first | k_is | rfl)
    (case gaX33 => k_is)
    (case ggX33 => k_is)
    (case hdX33 => k_is)
    (case clX33 => k_is)
    (case obX33 => first | k_is | rfl)
    (case z0 => k_is)
    (case z1 => k_is)
    (case z2 => k_is)
    (case z3 => k_is)
    (case z4 => k_is)
    (case z5 => k_is)
    (case z6 => k_is)
    (case z7 => k_is)
    (case z8 => k_is)
    (case z9 => k_is)
    (case z10 => k_is)
    (case z11 => k_is)
    (case z12 => k_is)
    (case z13 => k_is)
    (case z14 => k_is)
    (case z15 => k_is)
    (case z16 => k_is)
    (case z17 => k_is)
    (case z18 => k_is)
    (case z19 => k_is)
    (case z20 => k_is)
    (case kta => kernel_rfl)
