import PyProof.Rows.All
import Wide.All
import OpenK.AllK
import Wide.FinOn
import HandS.ForMost
import HandS.More
import HandS.Deep
import HandS.TupAny
import HandS.DictComp
import HandS.Property
import HandS.Star
import HandS.Conv
import HandS.Style
import HandS.Wide
import HandS.IsInst
import HandS.Flow
import HandS.Codes
import HandS.NoneIn
import HandS.Words
import HandS.EndBits
import PySem.Challenge.RW_boxtalks_k08_loads_by_hand
set_option Elab.async false
set_option linter.all false
set_option autoImplicit false
set_option maxRecDepth 100000
set_option exponentiation.threshold 10000
-- Mi
namespace Mi

abbrev Tx := List Nat

/-- values: tuples are trees, lists, dicts, instances stand in the store -/
inductive MV where
  | non
  | bl (b : Bool)
  | int (i : Int)
  | str (s : Tx)
  | tup (xs : List MV)
  /-- a list that never changes -/
  | lsv (xs : List MV)
  | ref (a : Nat)
  deriving Inhabited

/-- what stands in the store -/
inductive MO where
  | lst (xs : List MV)
  | dic (lk : Bool) (kvs : List (MV × MV))
  | ins (c : String) (fs : List (String × MV))

abbrev Sto := List MO
abbrev Env := List (Option MV)
abbrev Post := MV → Sto → Prop
abbrev Xp := String → MV → Sto → Prop

/-- data: what == and repr see -/
inductive PD where
  | non
  | bl (b : Bool)
  | int (i : Int)
  | str (s : Tx)
  | lst (xs : List PD)
  | tup (xs : List PD)
  | dic (kvs : List (PD × PD))

mutual
def PD.eqv : PD → PD → Bool
  | .non, .non => true
  | .bl a, .bl b => a == b
  | .bl a, .int j => (if a then 1 else 0) == j
  | .int i, .bl b => i == (if b then 1 else 0)
  | .int i, .int j => i == j
  | .str x, .str y => x == y
  | .lst xs, .lst ys => PD.eqvAll xs ys
  | .tup xs, .tup ys => PD.eqvAll xs ys
  | _, _ => false
def PD.eqvAll : List PD → List PD → Bool
  | [], [] => true
  | x :: xs, y :: ys => PD.eqv x y && PD.eqvAll xs ys
  | _, _ => false
end

mutual
/-- texts of true signs, no dict within -/
def PD.fine : PD → Bool
  | .str x => x.all (fun c => decide (c < 1114112))
  | .lst xs => PD.fineAll xs
  | .tup xs => PD.fineAll xs
  | .dic _ => false
  | _ => true
def PD.fineAll : List PD → Bool
  | [] => true
  | x :: xs => PD.fine x && PD.fineAll xs
end
mutual
def PD.nodic : PD → Bool
  | .lst xs => PD.nodicAll xs
  | .tup xs => PD.nodicAll xs
  | .dic _ => false
  | _ => true
def PD.nodicAll : List PD → Bool
  | [] => true
  | x :: xs => PD.nodic x && PD.nodicAll xs
end
mutual
/-- ints are short -/
def PD.shw : PD → Bool
  | .int i => decide (i.natAbs < 2 ^ 1000)
  | .lst xs => PD.shwAll xs
  | .tup xs => PD.shwAll xs
  | .dic kvs => PD.shwKv kvs
  | _ => true
def PD.shwAll : List PD → Bool
  | [] => true
  | x :: xs => PD.shw x && PD.shwAll xs
def PD.shwKv : List (PD × PD) → Bool
  | [] => true
  | (k, v) :: xs => PD.shw k && PD.shw v && PD.shwKv xs
end

/-- the data of a value: n bounds the depth -/
def toPD : Nat → Sto → MV → Option PD
  | 0, _, _ => none
  | _ + 1, _, .non => some .non
  | _ + 1, _, .bl b => some (.bl b)
  | _ + 1, _, .int i => some (.int i)
  | _ + 1, _, .str s => some (.str s)
  | n + 1, st, .tup xs => (xs.mapM (toPD n st)).map .tup
  | n + 1, st, .lsv xs => (xs.mapM (toPD n st)).map .lst
  | n + 1, st, .ref a => match st[a]? with
    | some (.lst xs) => (xs.mapM (toPD n st)).map .lst
    | some (.dic _ kvs) => (kvs.mapM fun (k, v) => do pure (← toPD n st k, ← toPD n st v)).map .dic
    | _ => none

inductive BOp where | add | sub | mul | fdiv | mod | pow
  deriving DecidableEq
inductive COp where | eq | ne | lt | le | gt | ge | isN | notN | inn | nin
  deriving DecidableEq
inductive Blt where | len | abs | int | str | list | tuple | max | min | sum | all | any | sorted | repr | dict | set | range
  deriving DecidableEq
inductive BMt where | append | extend | pop | index | split | join | get
  deriving DecidableEq
inductive ITy where | int | bool | str | tuple | list | dict | own (c : String)
  deriving DecidableEq

/-- the target of a for, of a comprehension, of an assignment -/
inductive ITg where
  | name (i : Nat)
  | tup (ns : List Nat)

mutual
inductive IE where
  | var (i : Nat)
  | con (v : MV)
  | tup (es : IA)
  | lst (es : IA)
  | dic (ps : IP)
  | bin (o : BOp) (a b : IE)
  | neg (a : IE)
  | cmp (o : COp) (a b : IE)
  | chn (o1 o2 : COp) (a b c : IE)
  | and (a b : IE)
  | or (a b : IE)
  | not (a : IE)
  | ite (c a b : IE)
  | sub (a i : IE)
  | sli (a : IE) (lo hi : IO)
  | rev (a : IE)
  | fld (a : IE) (f : String)
  | call (f : String) (es : IA)
  | new (c : String) (es : IA)
  | mth (a : IE) (m : String) (es : IA)
  | bmt (a : IE) (m : BMt) (es : IA)
  | blt (b : Blt) (es : IA)
  | isi (a : IE) (t : ITy)
  | lrg (a : IE)
  | lc (elt : IE) (tg : ITg) (it : II) (cond : IO) (own : List Nat)
  | dc (k v : IE) (tg : ITg) (it : II) (own : List Nat)
inductive IA where
  | nil
  | cons (e : IE) (r : IA)
  | star (e : IE) (r : IA)
inductive IP where
  | nil
  | cons (k v : IE) (r : IP)
inductive IO where
  | non
  | som (e : IE)
inductive II where
  | ev (e : IE)
  | rng (a : IE)
  | rng2 (a b : IE)
  | enu (e : IE)
  | zip (a b : IE)
  | keys (e : IE)
  | items (e : IE)
  | vals (e : IE)
end

inductive IS where
  | expr (e : IE)
  | asg (tg : ITg) (e : IE)
  | par (ns : List Nat) (es : IA)
  | setsub (o i e : IE)
  | setfld (o : IE) (f : String) (e : IE)
  | iff (c : IE) (a b : List IS)
  | whl (c : IE) (b : List IS)
  | for_ (tg : ITg) (it : II) (b : List IS)
  | ret (e : IE)
  | retN
  | pass
  | brk
  | cont
  | raise (c : String) (e : IE)
  | bad

structure IDef where
  np : Nat
  ns : Nat
  body : List IS

structure Prog where
  df : String → Option IDef
  /-- class, name: the qualified name of the method -/
  mt : String → String → Option String
  /-- an attribute: of the object itself, or a property -/
  pr : String → String → Option (Option String)
  rp : PD → Tx

/-! ### values -/
def big : Nat := 16777216

def truth (st : Sto) : MV → Option Bool
  | .non => some false
  | .bl b => some b
  | .int i => some (i != 0)
  | .str s => if s.length ≤ big then some (!s.isEmpty) else none
  | .tup xs => some (!xs.isEmpty)
  | .lsv xs => some (!xs.isEmpty)
  | .ref a => match st[a]? with
    | some (.lst xs) => some (!xs.isEmpty)
    | some (.dic false kvs) => some (!kvs.isEmpty)
    | _ => none

/-- the items of a list, a tuple -/
def seqOf (st : Sto) : MV → Option (List MV)
  | .tup xs => some xs
  | .lsv xs => some xs
  | .ref a => match st[a]? with
    | some (.lst xs) => some xs
    | _ => none
  | _ => none
def lstOf (st : Sto) : MV → Option (List MV)
  | .lsv xs => some xs
  | .ref a => match st[a]? with
    | some (.lst xs) => some xs
    | _ => none
  | _ => none

/-- the place of an index -/
def ixOf (n : Nat) (i : Int) : Option Nat :=
  if 0 ≤ i then (if i < n then some i.toNat else none) else if -(n : Int) ≤ i then some (i + n).toNat else none

def isKey : MV → Bool
  | .int _ => true
  | .str _ => true
  | _ => false
def keyEq : MV → MV → Bool
  | .int i, .int j => i == j
  | .str x, .str y => x == y
  | _, _ => false
def kLook (k : MV) : List (MV × MV) → Option MV
  | [] => none
  | (k', v) :: r => if keyEq k' k then some v else kLook k r
def kPut (k v : MV) (kvs : List (MV × MV)) : List (MV × MV) :=
  if kvs.any fun p => keyEq p.1 k then kvs.map fun p => if keyEq p.1 k then (p.1, v) else p else kvs ++ [(k, v)]

/-- the ends of a slice -/
def sIx (n : Nat) (d : Nat) : Option Int → Nat
  | none => d
  | some i => if i < 0 then (i + n).toNat else min i.toNat n
def cut {α : Type} (xs : List α) (lo hi : Option Int) : List α :=
  (xs.drop (sIx xs.length 0 lo)).take (sIx xs.length xs.length hi - sIx xs.length 0 lo)

def natTx (n : Nat) : Tx := (Nat.toDigits 10 n).map Char.toNat
def intTx : Int → Tx
  | .ofNat n => natTx n
  | .negSucc n => 45 :: natTx (n + 1)

/-- a text parted -/
def splitOn (c : Nat) : Tx → List Tx
  | [] => [[]]
  | x :: r => if x = c then [] :: splitOn c r else match splitOn c r with
    | [] => [[x]]
    | w :: ws => (x :: w) :: ws
def joinBy (s : Tx) : List Tx → Tx
  | [] => []
  | [w] => w
  | w :: ws => w ++ s ++ joinBy s ws

def txtOf : MV → Option Tx
  | .str s => some s
  | _ => none
def intOf : MV → Option Int
  | .int i => some i
  | _ => none
def blOf : MV → Option Bool
  | .bl i => some i
  | _ => none

def digitVal (s : Tx) : Option Int :=
  if 1 ≤ s.length ∧ s.length ≤ 9 ∧ s.all (fun c => 48 ≤ c && c ≤ 57) then some (List.foldl (fun (a : Int) (c : Nat) => a * 10 + ((c : Int) - 48)) 0 s) else none

def bound : Int := 2 ^ 6000

/-! ### operations: what must hold of Q -/
def opBin (o : BOp) (x y : MV) (st : Sto) (Q : Post) : Prop :=
  match o, x, y with
  | .add, .int i, .int j => Q (.int (i + j)) st
  | .add, .str a, .str b => a.length + b.length ≤ big ∧ Q (.str (a ++ b)) st
  | .add, .tup a, .tup b => a.length + b.length ≤ big ∧ Q (.tup (a ++ b)) st
  | .add, .ref a, .ref b => ∃ xs ys, st[a]? = some (.lst xs) ∧ st[b]? = some (.lst ys) ∧ xs.length + ys.length ≤ big ∧ Q (.ref st.length) (st ++ [.lst (xs ++ ys)])
  | .sub, .int i, .int j => Q (.int (i - j)) st
  | .mul, .int i, .int j => (i.natAbs < 2 ^ 64 ∨ j.natAbs < 2 ^ 64 ∨ (i.natAbs < 2 ^ 5000 ∧ j.natAbs < 2 ^ 5000)) ∧ Q (.int (i * j)) st
  | .mul, .ref a, .int k => ∃ xs, st[a]? = some (.lst xs) ∧ 0 ≤ k ∧ k < 2 ^ 63 ∧ xs.length * k.toNat ≤ big ∧ Q (.ref st.length) (st ++ [.lst (List.replicate k.toNat xs).flatten])
  | .fdiv, .int i, .int j => 0 < j ∧ j < 1073741824 ∧ Q (.int (i / j)) st
  | .mod, .int i, .int j => 0 < j ∧ Q (.int (i % j)) st
  | .pow, .int i, .int j => 0 ≤ j ∧ j ≤ 1000 ∧ i.natAbs < 2 ^ 5000 ∧ Q (.int (i ^ j.toNat)) st
  | _, _, _ => False

def scalar : MV → Bool
  | .non => true
  | .bl _ => true
  | .int _ => true
  | .str _ => true
  | _ => false

/-- == needs no look at signs -/
def scal2 : MV → MV → Bool
  | .bl _, .int _ => false
  | .int _, .bl _ => false
  | x, y => scalar x && scalar y
def inOk (x : MV) (ys : List MV) (d : PD) (ds : List PD) : Prop := (scalar x = true ∧ ys.all scalar = true) ∨ (d.fine = true ∧ PD.fineAll ds = true)

/-- x in y -/
def opIn (x y : MV) (st : Sto) (Q : Bool → Sto → Prop) : Prop :=
  match y with
  | .str t => match x with
    | .str [c] => Q (t.contains c) st
    | _ => False
  | .lsv ys => ∃ d ds, toPD 30 st x = some d ∧ ys.mapM (toPD 30 st) = some ds ∧ inOk x ys d ds ∧ Q (ds.any fun z => PD.eqv z d) st
  | .tup ys => ∃ d ds, toPD 30 st x = some d ∧ ys.mapM (toPD 30 st) = some ds ∧ scalar x = true ∧ ys.all scalar = true ∧ Q (ds.any fun z => PD.eqv z d) st
  | .ref a => match st[a]? with
    | some (.lst ys) => ∃ d ds, toPD 30 st x = some d ∧ ys.mapM (toPD 30 st) = some ds ∧ inOk x ys d ds ∧ Q (ds.any fun z => PD.eqv z d) st
    | some (.dic _ kvs) => isKey x = true ∧ Q (kLook x kvs).isSome st
    | _ => False
  | _ => False

/-- dicts compared: both void, or not of one length -/
def dEq (x y : MV) (st : Sto) (Q : Bool → Prop) : Prop := ∃ a b ks ls, x = .ref a ∧ y = .ref b ∧ st[a]? = some (.dic false ks) ∧ st[b]? = some (.dic false ls) ∧ (ks.length = ls.length → ks = []) ∧ Q (ks.length == ls.length)

def opCmp (o : COp) (x y : MV) (st : Sto) (Q : Bool → Sto → Prop) : Prop :=
  match o with
  | .eq => (∃ d e, toPD 30 st x = some d ∧ toPD 30 st y = some e ∧ (scal2 x y = true ∨ (d.fine = true ∧ e.fine = true)) ∧ Q (PD.eqv d e) st) ∨ dEq x y st fun b => Q b st
  | .ne => (∃ d e, toPD 30 st x = some d ∧ toPD 30 st y = some e ∧ (scal2 x y = true ∨ (d.fine = true ∧ e.fine = true)) ∧ Q (!PD.eqv d e) st) ∨ dEq x y st fun b => Q (!b) st
  | .lt => ∃ i j, x = .int i ∧ y = .int j ∧ Q (decide (i < j)) st
  | .le => ∃ i j, x = .int i ∧ y = .int j ∧ Q (decide (i ≤ j)) st
  | .gt => ∃ i j, x = .int i ∧ y = .int j ∧ Q (decide (j < i)) st
  | .ge => ∃ i j, x = .int i ∧ y = .int j ∧ Q (decide (j ≤ i)) st
  | .isN => y = .non ∧ Q (match x with | .non => true | _ => false) st
  | .notN => y = .non ∧ Q (match x with | .non => false | _ => true) st
  | .inn => opIn x y st Q
  | .nin => opIn x y st fun b st' => Q (!b) st'

/-- x[i] -/
def opSub (x i : MV) (st : Sto) (Q : Post) : Prop :=
  match x with
  | .tup xs => ∃ n v, i = .int n ∧ (ixOf xs.length n).bind (xs[·]?) = some v ∧ Q v st
  | .lsv xs => ∃ n v, i = .int n ∧ (ixOf xs.length n).bind (xs[·]?) = some v ∧ Q v st
  | .str s => ∃ n c, i = .int n ∧ s.length ≤ big ∧ (ixOf s.length n).bind (s[·]?) = some c ∧ Q (.str [c]) st
  | .ref a => match st[a]? with
    | some (.lst xs) => ∃ n v, i = .int n ∧ (ixOf xs.length n).bind (xs[·]?) = some v ∧ Q v st
    | some (.dic _ kvs) => ∃ v, isKey i = true ∧ kLook i kvs = some v ∧ Q v st
    | _ => False
  | _ => False

/-- x[lo:hi] -/
def opSli (x : MV) (lo hi : Option Int) (st : Sto) (Q : Post) : Prop :=
  match x with
  | .tup xs => Q (.tup (cut xs lo hi)) st
  | .str s => s.length ≤ big ∧ Q (.str (cut s lo hi)) st
  | .ref a => match st[a]? with
    | some (.lst xs) => Q (.ref st.length) (st ++ [.lst (cut xs lo hi)])
    | _ => False
  | _ => False

def keysOf (kvs : List (MV × MV)) : List MV := kvs.map (·.1)

/-- a dict of pairs -/
def dictOf : List MV → List (MV × MV) → Option (List (MV × MV))
  | [], acc => some acc
  | .tup [k, v] :: r, acc => if isKey k then dictOf r (kPut k v acc) else none
  | _ :: _, _ => none

def opBlt (rp : PD → Tx) (b : Blt) (vs : List MV) (st : Sto) (Q : Post) : Prop :=
  match b, vs with
  | .len, [.str s] => s.length ≤ big ∧ Q (.int s.length) st
  | .len, [.tup xs] => Q (.int xs.length) st
  | .len, [.lsv xs] => Q (.int xs.length) st
  | .len, [.ref a] => match st[a]? with
    | some (.lst xs) => Q (.int xs.length) st
    | some (.dic false kvs) => Q (.int kvs.length) st
    | _ => False
  | .abs, [.int i] => Q (.int (if i < 0 then -i else i)) st
  | .int, [.int i] => Q (.int i) st
  | .int, [.bl k] => Q (.int (if k then 1 else 0)) st
  | .int, [.str s] => ∃ i, digitVal s = some i ∧ Q (.int i) st
  | .str, [.int i] => i.natAbs < 2 ^ 1000 ∧ Q (.str (intTx i)) st
  | .list, [.tup xs] => Q (.ref st.length) (st ++ [.lst xs])
  | .list, [.lsv xs] => Q (.ref st.length) (st ++ [.lst xs])
  | .list, [.ref a] => match st[a]? with
    | some (.lst xs) => Q (.ref st.length) (st ++ [.lst xs])
    | some (.dic _ kvs) => Q (.ref st.length) (st ++ [.lst (keysOf kvs)])
    | _ => False
  | .tuple, [.tup xs] => Q (.tup xs) st
  | .tuple, [.lsv xs] => Q (.tup xs) st
  | .tuple, [.ref a] => match st[a]? with
    | some (.lst xs) => Q (.tup xs) st
    | some (.dic _ kvs) => Q (.tup (keysOf kvs)) st
    | _ => False
  | .max, [.int i, .int j] => Q (.int (if j > i then j else i)) st
  | .min, [.int i, .int j] => Q (.int (if j < i then j else i)) st
  | .max, [.ref a] => ∃ ns : List Int, ∃ m, st[a]? = some (.lst (ns.map .int)) ∧ m ∈ ns ∧ (∀ y ∈ ns, y ≤ m) ∧ Q (.int m) st
  | .min, [.ref a] => ∃ ns : List Int, ∃ m, st[a]? = some (.lst (ns.map .int)) ∧ m ∈ ns ∧ (∀ y ∈ ns, m ≤ y) ∧ Q (.int m) st
  | .sum, [.ref a] => ∃ ns : List Int, st[a]? = some (.lst (ns.map .int)) ∧ Q (.int ns.sum) st
  | .all, [.ref a] => ∃ bs : List Bool, st[a]? = some (.lst (bs.map .bl)) ∧ Q (.bl (bs.all id)) st
  | .any, [.ref a] => ∃ bs : List Bool, st[a]? = some (.lst (bs.map .bl)) ∧ Q (.bl (bs.any id)) st
  | .repr, [x] => ∃ d, toPD 30 st x = some d ∧ d.shw = true ∧ d.nodic = true ∧ (rp d).length ≤ big ∧ Q (.str (rp d)) st
  | .dict, [.ref a] => match st[a]? with
    | some (.lst xs) => ∃ kvs, dictOf xs [] = some kvs ∧ Q (.ref st.length) (st ++ [.dic false kvs])
    | some (.dic _ kvs) => Q (.ref st.length) (st ++ [.dic false kvs])
    | _ => False
  | _, _ => False

/-- a value with methods of its own type -/
def btOk (m : BMt) (st : Sto) : MV → Bool
  | .str _ => match m with | .split => true | .join => true | _ => false
  | .ref a => match st[a]? with
    | some (.lst _) => match m with | .append => true | .extend => true | .pop => true | .index => true | _ => false
    | some (.dic false _) => match m with | .get => true | _ => false
    | _ => false
  | _ => false

/-- a method of a list, a dict, a text -/
def opBmt (m : BMt) (x : MV) (vs : List MV) (st : Sto) (Q : Post) : Prop :=
  match m with
  | .split => ∃ s c, x = .str s ∧ vs = [.str [c]] ∧ s.length + 2 ≤ big ∧ Q (.ref st.length) (st ++ [.lst ((splitOn c s).map .str)])
  | .join => ∃ s v, ∃ ws : List Tx, x = .str s ∧ vs = [v] ∧ seqOf st v = some (ws.map .str) ∧ (ws.map (·.length)).sum + ws.length * s.length ≤ big ∧ Q (.str (joinBy s ws)) st
  | .append => ∃ a xs v, x = .ref a ∧ st[a]? = some (.lst xs) ∧ vs = [v] ∧ xs.length < big ∧ Q .non (st.set a (.lst (xs ++ [v])))
  | .extend => ∃ a xs b ys, x = .ref a ∧ st[a]? = some (.lst xs) ∧ vs = [.ref b] ∧ st[b]? = some (.lst ys) ∧ xs.length + ys.length ≤ big ∧ Q .non (st.set a (.lst (xs ++ ys)))
  | .pop => ∃ a xs i k v, x = .ref a ∧ st[a]? = some (.lst xs) ∧ vs = [.int i] ∧ xs.length < big ∧ ixOf xs.length i = some k ∧ xs[k]? = some v ∧ Q v (st.set a (.lst (xs.eraseIdx k)))
  | .index => ∃ a xs v d ds j, x = .ref a ∧ st[a]? = some (.lst xs) ∧ vs = [v] ∧ toPD 30 st v = some d ∧ xs.mapM (toPD 30 st) = some ds ∧ d.fine = true ∧ PD.fineAll ds = true ∧ ds.findIdx? (fun z => PD.eqv z d) = some j ∧ Q (.int (j : Nat)) st
  | .get => ∃ a kvs k v, x = .ref a ∧ st[a]? = some (.dic false kvs) ∧ vs = [k, v] ∧ isKey k = true ∧ Q ((kLook k kvs).getD v) st

def opIsi (t : ITy) (x : MV) (st : Sto) (Q : Bool → Sto → Prop) : Prop :=
  match x with
  | .non => Q false st
  | .bl _ => Q (match t with | .bool => true | .int => true | _ => false) st
  | .int _ => Q (match t with | .int => true | _ => false) st
  | .str _ => Q (match t with | .str => true | _ => false) st
  | .tup _ => Q (match t with | .tuple => true | _ => false) st
  | .lsv _ => Q (match t with | .list => true | _ => false) st
  | .ref a => match st[a]? with
    | some (.lst _) => Q (match t with | .list => true | _ => false) st
    | some (.dic _ _) => Q (match t with | .dict => true | _ => false) st
    | _ => False

def putFld (f : String) (v : MV) : List (String × MV) → List (String × MV)
  | [] => [(f, v)]
  | (g, w) :: r => if g = f then (g, v) :: r else (g, w) :: putFld f v r

/-- o[i] = v -/
def opSet (x i v : MV) (st : Sto) (Q : Sto → Prop) : Prop :=
  match x with
  | .ref a => match st[a]? with
    | some (.lst xs) => ∃ n k, i = .int n ∧ ixOf xs.length n = some k ∧ Q (st.set a (.lst (xs.set k v)))
    | some (.dic false kvs) => isKey i = true ∧ kvs.length < big ∧ Q (st.set a (.dic false (kPut i v kvs)))
    | _ => False
  | _ => False

/-! ### loops -/
/-- what is walked: the items; what must stand still -/
structure It where
  xs : List MV
  ok : Sto → Prop

def enumFrom : Nat → List MV → List MV
  | _, [] => []
  | n, x :: r => .tup [.int (n : Int), x] :: enumFrom (n + 1) r

/-- over items, a state of type α carried -/
def loop {α : Type} (ok : Sto → Prop) (step : MV → α → Sto → (α → Sto → Prop) → Prop) : List MV → α → Sto → (α → Sto → Prop) → Prop
  | [], a, st, Q => ok st ∧ Q a st
  | x :: r, a, st, Q => ok st ∧ step x a st fun a' st' => loop ok step r a' st' Q

def setTg (tg : ITg) (v : MV) (σ : Env) (Q : Env → Prop) : Prop :=
  match tg with
  | .name i => Q (σ.set i (some v))
  | .tup ns => ∃ vs, v = .tup vs ∧ vs.length = ns.length ∧ Q ((ns.zip vs).foldl (fun s p => s.set p.1 (some p.2)) σ)

/-- .. where the value may be a list -/
def setTgS (tg : ITg) (v : MV) (σ : Env) (st : Sto) (Q : Env → Prop) : Prop :=
  match tg with
  | .name i => Q (σ.set i (some v))
  | .tup ns => ∃ vs, seqOf st v = some vs ∧ vs.length = ns.length ∧ Q ((ns.zip vs).foldl (fun s p => s.set p.1 (some p.2)) σ)

def wipeE (σ : Env) : List Nat → Env
  | [] => σ
  | v :: vs => (wipeE σ vs).set v none

structure Ends where
  nx : Env → Sto → Prop
  rt : MV → Sto → Prop
  bk : Env → Sto → Prop
  ct : Env → Sto → Prop
  ex : String → MV → Env → Sto → Prop

/-- a while: n turns at most -/
def whileN (test : Env → Sto → (Bool → Sto → Prop) → Prop) (body : Ends → Env → Sto → Prop) (D : Ends) : Nat → Env → Sto → Prop
  | 0, _, _ => False
  | n + 1, σ, st => test σ st fun b st' => if b then body { D with nx := whileN test body D n, ct := whileN test body D n, bk := D.nx } σ st' else D.nx σ st'

abbrev Phi := String → List MV → Sto → Post → Xp → Prop

section
variable (P : Prog) (F : Phi)

/-- a dict walked: locked while the loop runs -/
def lockAt (v : MV) (st : Sto) (K : Nat → List (MV × MV) → Sto → Prop) : Prop := ∃ a kvs, v = .ref a ∧ st[a]? = some (.dic false kvs) ∧ K a kvs (st.set a (.dic true kvs))
def unlock (a : Nat) (kvs : List (MV × MV)) (st : Sto) (Q : Sto → Prop) : Prop := st[a]? = some (.dic true kvs) ∧ Q (st.set a (.dic false kvs))

/-- the items of a value; R: the rest -/
def itemsOf (v : MV) (st : Sto) (R : It → Sto → Prop) : Prop :=
  match v with
  | .tup xs => R ⟨xs, fun _ => True⟩ st
  | .lsv xs => R ⟨xs, fun _ => True⟩ st
  | .str s => R ⟨s.map fun c => .str [c], fun _ => True⟩ st
  | .ref a => match st[a]? with
    | some (.lst xs) => R ⟨xs, fun st' => st'[a]? = some (.lst xs)⟩ st
    | _ => False
  | _ => False

/-- x[y], a dict's, a list's, or the object's own -/
def opGet (x y : MV) (st : Sto) (Q : Post) (X : Xp) : Prop := opSub x y st Q ∨ ∃ n c fs q, x = .ref n ∧ st[n]? = some (.ins c fs) ∧ P.mt c "__getitem__" = some q ∧ F q [x, y] st Q X
/-- x.f -/
def opFld (f : String) (x : MV) (st : Sto) (Q : Post) (X : Xp) : Prop := ∃ n c fs, x = .ref n ∧ st[n]? = some (.ins c fs) ∧
      ((P.pr c f = some none ∧ ∃ v, fs.lookup f = some v ∧ Q v st) ∨ ∃ q, P.pr c f = some (some q) ∧ F q [x] st Q X)
mutual
def wpE : IE → Env → Sto → Post → Xp → Prop
  | .var i, σ, st, Q, _ => ∃ v, σ[i]? = some (some v) ∧ Q v st
  | .con v, _, st, Q, _ => Q v st
  | .tup es, σ, st, Q, X => wpA es σ st (fun vs st' => vs.length ≤ big ∧ Q (.tup vs) st') X
  | .lst es, σ, st, Q, X => wpA es σ st (fun vs st' => vs.length ≤ big ∧ Q (.ref st'.length) (st' ++ [.lst vs])) X
  | .dic ps, σ, st, Q, X => wpP ps σ st (fun kvs st' => kvs.all (fun kv => isKey kv.1) = true ∧ kvs.length ≤ 15 ∧ Q (.ref st'.length) (st' ++ [.dic false (kvs.foldl (fun acc kv => kPut kv.1 kv.2 acc) [])])) X
  | .bin o a b, σ, st, Q, X => wpE a σ st (fun x st1 => wpE b σ st1 (fun y st2 => opBin o x y st2 Q) X) X
  | .neg a, σ, st, Q, X => wpE a σ st (fun x st1 => ∃ i, x = .int i ∧ Q (.int (-i)) st1) X
  | .cmp o a b, σ, st, Q, X => wpE a σ st (fun x st1 => wpE b σ st1 (fun y st2 => opCmp o x y st2 fun t st3 => Q (.bl t) st3) X) X
  | .chn o1 o2 a b c, σ, st, Q, X => wpE a σ st (fun x st1 => wpE b σ st1 (fun y st2 => opCmp o1 x y st2 fun t st3 =>
      if t then wpE c σ st3 (fun z st4 => opCmp o2 y z st4 fun u st5 => Q (.bl u) st5) X else Q (.bl false) st3) X) X
  | .and a b, σ, st, Q, X => wpE a σ st (fun x st1 => ∃ t, truth st1 x = some t ∧ if t then wpE b σ st1 Q X else Q x st1) X
  | .or a b, σ, st, Q, X => wpE a σ st (fun x st1 => ∃ t, truth st1 x = some t ∧ if t then Q x st1 else wpE b σ st1 Q X) X
  | .not a, σ, st, Q, X => wpE a σ st (fun x st1 => ∃ t, truth st1 x = some t ∧ Q (.bl (!t)) st1) X
  | .ite c a b, σ, st, Q, X => wpE c σ st (fun x st1 => ∃ t, truth st1 x = some t ∧ if t then wpE a σ st1 Q X else wpE b σ st1 Q X) X
  | .sub a i, σ, st, Q, X => wpE a σ st (fun x st1 => wpE i σ st1 (fun y st2 => opGet P F x y st2 Q X) X) X
  | .sli a lo hi, σ, st, Q, X => wpE a σ st (fun x st1 => wpO lo σ st1 (fun l st2 => wpO hi σ st2 (fun h st3 => opSli x l h st3 Q) X) X) X
  | .rev a, σ, st, Q, X => wpE a σ st (fun x st1 => ∃ a xs, x = .ref a ∧ st1[a]? = some (.lst xs) ∧ Q (.ref st1.length) (st1 ++ [.lst xs.reverse])) X
  | .fld a f, σ, st, Q, X => wpE a σ st (fun x st1 => opFld P F f x st1 Q X) X
  | .call f es, σ, st, Q, X => wpA es σ st (fun vs st1 => F f vs st1 Q X) X
  | .new c es, σ, st, Q, X => wpA es σ st (fun vs st1 => ∃ q, P.mt c "__init__" = some q ∧ F q (.ref st1.length :: vs) (st1 ++ [.ins c []]) (fun v st2 => v = .non ∧ Q (.ref st1.length) st2) X) X
  | .mth a m es, σ, st, Q, X => wpE a σ st (fun x st1 => ∃ n c fs q, x = .ref n ∧ st1[n]? = some (.ins c fs) ∧ fs.lookup m = none ∧ P.mt c m = some q ∧ wpA es σ st1 (fun vs st2 => F q (x :: vs) st2 Q X) X) X
  | .bmt a m es, σ, st, Q, X => wpE a σ st (fun x st1 => btOk m st1 x = true ∧ wpA es σ st1 (fun vs st2 => opBmt m x vs st2 Q) X) X
  | .blt b es, σ, st, Q, X => wpA es σ st (fun vs st1 => opBlt P.rp b vs st1 Q) X
  | .isi a t, σ, st, Q, X => wpE a σ st (fun x st1 => opIsi t x st1 fun b st2 => Q (.bl b) st2) X
  | .lrg a, σ, st, Q, X => wpE a σ st (fun x st1 => ∃ n : Int, x = .int n ∧ -1000000 ≤ n ∧ n ≤ 1000000 ∧ Q (.ref st1.length) (st1 ++ [.lst ((List.range n.toNat).map fun (i : Nat) => .int (i : Int))])) X
  | .lc elt tg it cond own, σ, st, Q, X => wpI it σ st (fun J st1 fin => J.xs.length < big ∧
      loop J.ok (fun x acc st2 k => setTg tg x (wipeE σ own) fun σ2 => wpO' cond σ2 st2 (fun t st3 => if t then wpE elt σ2 st3 (fun y st4 => k (acc ++ [y]) st4) (fun _ _ _ => False) else k acc st3)) J.xs [] st1
        fun acc st5 => fin st5 fun st6 => Q (.ref st6.length) (st6 ++ [.lst acc])) X
  | .dc ke ve tg it own, σ, st, Q, X => wpI it σ st (fun J st1 fin => J.xs.length < big ∧
      loop J.ok (fun x acc st2 k => setTg tg x (wipeE σ own) fun σ2 => wpE ke σ2 st2 (fun kv st3 => isKey kv = true ∧ wpE ve σ2 st3 (fun y st4 => k (kPut kv y acc) st4) (fun _ _ _ => False)) (fun _ _ _ => False)) J.xs [] st1
        fun acc st5 => fin st5 fun st6 => Q (.ref st6.length) (st6 ++ [.dic false acc])) X
def wpA : IA → Env → Sto → (List MV → Sto → Prop) → Xp → Prop
  | .nil, _, st, Q, _ => Q [] st
  | .cons e r, σ, st, Q, X => wpE e σ st (fun v st1 => wpA r σ st1 (fun vs st2 => Q (v :: vs) st2) X) X
  | .star e r, σ, st, Q, X => wpE e σ st (fun v st1 => ∃ xs, seqOf st1 v = some xs ∧ wpA r σ st1 (fun vs st2 => Q (xs ++ vs) st2) X) X
def wpP : IP → Env → Sto → (List (MV × MV) → Sto → Prop) → Xp → Prop
  | .nil, _, st, Q, _ => Q [] st
  | .cons k v r, σ, st, Q, X => wpE k σ st (fun x st1 => wpE v σ st1 (fun y st2 => wpP r σ st2 (fun kvs st3 => Q ((x, y) :: kvs) st3) X) X) X
def wpO : IO → Env → Sto → (Option Int → Sto → Prop) → Xp → Prop
  | .non, _, st, Q, _ => Q none st
  | .som e, σ, st, Q, X => wpE e σ st (fun v st1 => ∃ i, v = .int i ∧ Q (some i) st1) X
def wpO' : IO → Env → Sto → (Bool → Sto → Prop) → Prop
  | .non, _, st, Q => Q true st
  | .som e, σ, st, Q => wpE e σ st (fun v st1 => ∃ t, truth st1 v = some t ∧ Q t st1) (fun _ _ _ => False)
/-- fin: what is done behind the last turn -/
def wpI : II → Env → Sto → (It → Sto → (Sto → (Sto → Prop) → Prop) → Prop) → Xp → Prop
  | .ev e, σ, st, R, X => wpE e σ st (fun v st1 => itemsOf v st1 fun J st2 => R J st2 fun st3 k => k st3) X
  | .rng a, σ, st, R, X => wpE a σ st (fun v st1 => ∃ n : Int, v = .int n ∧ -1000000 ≤ n ∧ n ≤ 1000000 ∧ R ⟨(List.range n.toNat).map fun (i : Nat) => .int (i : Int), fun _ => True⟩ st1 fun st3 k => k st3) X
  | .rng2 a b, σ, st, R, X => wpE a σ st (fun v st1 => wpE b σ st1 (fun w st2 => ∃ n m : Int, v = .int n ∧ w = .int m ∧ -1000000 ≤ n ∧ n ≤ 1000000 ∧ -1000000 ≤ m ∧ m ≤ 1000000 ∧
      R ⟨(List.range (m - n).toNat).map fun (i : Nat) => .int (n + (i : Int)), fun _ => True⟩ st2 fun st3 k => k st3) X) X
  | .enu e, σ, st, R, X => wpE e σ st (fun v st1 => ∃ a xs, v = .ref a ∧ st1[a]? = some (.lst xs) ∧ R ⟨enumFrom 0 xs, fun st' => st'[a]? = some (.lst xs)⟩ st1 fun st3 k => k st3) X
  | .zip a b, σ, st, R, X => wpE a σ st (fun v st1 => wpE b σ st1 (fun w st2 => ∃ p q xs ys, v = .ref p ∧ w = .ref q ∧ st2[p]? = some (.lst xs) ∧ st2[q]? = some (.lst ys) ∧
      R ⟨(xs.zip ys).map fun z => .tup [z.1, z.2], fun st' => st'[p]? = some (.lst xs) ∧ st'[q]? = some (.lst ys)⟩ st2 fun st3 k => k st3) X) X
  | .keys e, σ, st, R, X => wpE e σ st (fun v st0 => lockAt v st0 fun a kvs st1 => R ⟨keysOf kvs, fun st' => st'[a]? = some (.dic true kvs)⟩ st1 fun st3 k => unlock a kvs st3 k) X
  | .items e, σ, st, R, X => wpE e σ st (fun v st0 => lockAt v st0 fun a kvs st1 => R ⟨kvs.map fun kv => .tup [kv.1, kv.2], fun st' => st'[a]? = some (.dic true kvs)⟩ st1 fun st3 k => unlock a kvs st3 k) X
  | .vals e, σ, st, R, X => wpE e σ st (fun v st0 => lockAt v st0 fun a kvs st1 => R ⟨kvs.map (·.2), fun st' => st'[a]? = some (.dic true kvs)⟩ st1 fun st3 k => unlock a kvs st3 k) X
end

mutual
def wpS : IS → Ends → Env → Sto → Prop
  | .expr e, D, σ, st => wpE P F e σ st (fun _ st1 => D.nx σ st1) (fun c v st' => D.ex c v σ st')
  | .asg tg e, D, σ, st => wpE P F e σ st (fun v st1 => setTgS tg v σ st1 fun σ1 => D.nx σ1 st1) (fun c v st' => D.ex c v σ st')
  | .par ns es, D, σ, st => wpA P F es σ st (fun vs st1 => vs.length = ns.length ∧ D.nx ((ns.zip vs).foldl (fun s p => s.set p.1 (some p.2)) σ) st1) (fun c v st' => D.ex c v σ st')
  | .setsub o i e, D, σ, st => wpE P F e σ st (fun v st1 => wpE P F o σ st1 (fun x st2 => wpE P F i σ st2 (fun y st3 => opSet x y v st3 fun st4 => D.nx σ st4)
      (fun c v st' => D.ex c v σ st')) (fun c v st' => D.ex c v σ st')) (fun c v st' => D.ex c v σ st')
  | .setfld o f e, D, σ, st => wpE P F e σ st (fun v st1 => wpE P F o σ st1 (fun x st2 => ∃ n c fs, x = .ref n ∧ st2[n]? = some (.ins c fs) ∧ P.pr c f = some none ∧ fs.length < 20 ∧ D.nx σ (st2.set n (.ins c (putFld f v fs))))
      (fun c v st' => D.ex c v σ st')) (fun c v st' => D.ex c v σ st')
  | .iff c a b, D, σ, st => wpE P F c σ st (fun x st1 => ∃ t, truth st1 x = some t ∧ if t then wpSs a D σ st1 else wpSs b D σ st1) (fun c v st' => D.ex c v σ st')
  | .whl c b, D, σ, st => ∃ n, whileN (fun σ1 st1 k => wpE P F c σ1 st1 (fun x st2 => ∃ t, truth st2 x = some t ∧ k t st2) (fun c v st' => D.ex c v σ1 st')) (wpSs b) D n σ st
  | .for_ tg it b, D, σ, st => wpI P F it σ st (fun J st1 fin =>
      loop J.ok (fun x σ1 st2 k => setTg tg x σ1 fun σ2 => wpSs b { nx := k, ct := k, bk := fun σ' st' => fin st' fun st'' => D.nx σ' st'', rt := fun v st' => fin st' fun st'' => D.rt v st'', ex := fun c v σ' st' => fin st' fun st'' => D.ex c v σ' st'' } σ2 st2) J.xs σ st1
        fun σ' st' => fin st' fun st'' => D.nx σ' st'') (fun c v st' => D.ex c v σ st')
  | .ret e, D, σ, st => wpE P F e σ st D.rt (fun c v st' => D.ex c v σ st')
  | .retN, D, _, st => D.rt .non st
  | .pass, D, σ, st => D.nx σ st
  | .brk, D, σ, st => D.bk σ st
  | .cont, D, σ, st => D.ct σ st
  | .raise c e, D, σ, st => wpE P F e σ st (fun v st1 => D.ex c v σ st1) (fun c v st' => D.ex c v σ st')
  | .bad, _, _, _ => False
def wpSs : List IS → Ends → Env → Sto → Prop
  | [], D, σ, st => D.nx σ st
  | s :: r, D, σ, st => wpS s { D with nx := fun σ1 st1 => wpSs r D σ1 st1 } σ st
end
end

/-- the program: k calls deep -/
def sem (P : Prog) : Nat → Phi
  | 0 => fun _ _ _ _ _ => False
  | k + 1 => fun q vs st Q X => ∃ d, P.df q = some d ∧ vs.length = d.np ∧
      wpSs P (sem P k) d.body ⟨fun _ st' => Q .non st', Q, fun _ _ => False, fun _ _ => False, fun c v _ st' => X c v st'⟩ (vs.map some ++ List.replicate (d.ns - d.np) none) st
end Mi
-- S1
namespace Snd
open PySem L2 Mi
abbrev HS := L2.St
abbrev Mu := Nat → Option Addr

mutual
/-- a tree's value in the real heap: g the addresses of what stands in the store, I the frozen part -/
def RepV (K : PySem.W.Frag) (g : Mu) (I : Hp) : MV → V → Prop
  | .non, v => v = .non
  | .bl b, v => v = .bl b
  | .int i, v => v = .int i
  | .str s, v => v = .str ⟨s.toArray⟩
  | .ref a, v => ∃ p, g a = some p ∧ v = .ref p
  | .tup xs, v => ∃ p vs, v = .ref p ∧ SqT K I p vs ∧ RepVs K g I xs vs
  | .lsv xs, v => ∃ p vs, v = .ref p ∧ SqL K I p vs ∧ RepVs K g I xs vs
def RepVs (K : PySem.W.Frag) (g : Mu) (I : Hp) : List MV → List V → Prop
  | [], vs => vs = []
  | x :: xs, vs => ∃ v r, vs = v :: r ∧ RepV K g I x v ∧ RepVs K g I xs r
end
def LeM (g g' : Mu) : Prop := ∀ a p, g a = some p → g' a = some p
def LeH (I I' : Hp) : Prop := ∀ p o, I p = some o → I' p = some o
theorem LeM.refl (g : Mu) : LeM g g := fun _ _ h => h
theorem LeH.refl (I : Hp) : LeH I I := fun _ _ h => h
theorem LeM.trans {a b c : Mu} (x : LeM a b) (y : LeM b c) : LeM a c := fun q p h => y q p (x q p h)
theorem LeH.trans {a b c : Hp} (x : LeH a b) (y : LeH b c) : LeH a c := fun q p h => y q p (x q p h)
theorem LeH.rd {I J : Hp} (h : LeH I J) {a : Addr} {u : HO} (r : Rd I a u) : Rd J a u := by
  rcases r with r | ⟨o, r⟩
  · exact .inl (h _ _ r)
  · exact .inr ⟨o, h _ _ r⟩
theorem LeH.tup {K : PySem.W.Frag} {I J : Hp} (h : LeH I J) {a : Addr} {xs : List V} (r : SqT K I a xs) : SqT K J a xs := by
  rcases r with r | r
  · exact .inl (h.rd r)
  · exact .inr r
theorem LeH.lst {K : PySem.W.Frag} {I J : Hp} (h : LeH I J) {a : Addr} {xs : List V} (r : SqL K I a xs) : SqL K J a xs := by
  rcases r with r | r
  · exact .inl (h.rd r)
  · exact .inr r

mutual
theorem RepV.mono {K : PySem.W.Frag} {g g' : Mu} {I I' : Hp} (hg : LeM g g') (hI : LeH I I') : ∀ {x : MV} {v : V}, RepV K g I x v → RepV K g' I' x v
  | .non, _, h => h
  | .bl _, _, h => h
  | .int _, _, h => h
  | .str _, _, h => h
  | .ref _, _, ⟨p, h1, h2⟩ => ⟨p, hg _ _ h1, h2⟩
  | .tup _, _, ⟨p, vs, h1, h2, h3⟩ => ⟨p, vs, h1, hI.tup h2, RepVs.mono hg hI h3⟩
  | .lsv _, _, ⟨p, vs, h1, h2, h3⟩ => ⟨p, vs, h1, hI.lst h2, RepVs.mono hg hI h3⟩
theorem RepVs.mono {K : PySem.W.Frag} {g g' : Mu} {I I' : Hp} (hg : LeM g g') (hI : LeH I I') : ∀ {xs : List MV} {vs : List V}, RepVs K g I xs vs → RepVs K g' I' xs vs
  | [], _, h => h
  | _ :: _, _, ⟨v, r, h1, h2, h3⟩ => ⟨v, r, h1, RepV.mono hg hI h2, RepVs.mono hg hI h3⟩
end
section
variable {K : PySem.W.Frag} {g : Mu} {I : Hp}
theorem RepVs.len : ∀ {xs : List MV} {vs : List V}, RepVs K g I xs vs → vs.length = xs.length
  | [], _, h => by have h : _ = _ := h; subst h; rfl
  | _ :: _, _, ⟨v, r, h1, h2, h3⟩ => by subst h1; simp [RepVs.len h3]
theorem RepVs.get : ∀ {xs : List MV} {vs : List V} {i : Nat} {x : MV}, RepVs K g I xs vs → xs[i]? = some x → ∃ v, vs[i]? = some v ∧ RepV K g I x v
  | [], _, _, _, _, h => by simp at h
  | _ :: _, _, 0, _, ⟨v, r, h1, h2, h3⟩, h => by subst h1; simp at h; subst h; exact ⟨v, rfl, h2⟩
  | _ :: _, _, i + 1, _, ⟨v, r, h1, h2, h3⟩, h => by
    subst h1
    simp only [List.getElem?_cons_succ] at h ⊢
    exact RepVs.get h3 h
theorem RepVs.getV : ∀ {xs : List MV} {vs : List V} {i : Nat} {v : V}, RepVs K g I xs vs → vs[i]? = some v → ∃ x, xs[i]? = some x ∧ RepV K g I x v := by
  intro xs vs i v h e
  have hi : i < xs.length := by rw [← h.len]; exact (List.getElem?_eq_some_iff.mp e).1
  obtain ⟨w, hw, r⟩ := h.get (List.getElem?_eq_getElem hi)
  rw [e] at hw; cases hw
  exact ⟨_, List.getElem?_eq_getElem hi, r⟩
theorem RepVs.app : ∀ {xs ys : List MV} {vs ws : List V}, RepVs K g I xs vs → RepVs K g I ys ws → RepVs K g I (xs ++ ys) (vs ++ ws)
  | [], _, _, _, h, h' => by have h : _ = _ := h; subst h; exact h'
  | _ :: _, _, _, _, ⟨v, r, h1, h2, h3⟩, h' => by subst h1; exact ⟨v, r ++ _, rfl, h2, RepVs.app h3 h'⟩
theorem RepVs.of_get : ∀ {xs : List MV} {vs : List V}, vs.length = xs.length → (∀ (i : Nat) x v, xs[i]? = some x → vs[i]? = some v → RepV K g I x v) → RepVs K g I xs vs
  | [], vs, hl, _ => by
    show vs = []
    exact List.length_eq_zero_iff.mp hl
  | x :: xs, [], hl, _ => by simp at hl
  | x :: xs, v :: vs, hl, h => ⟨v, vs, rfl, h 0 x v rfl rfl, RepVs.of_get (by simpa using hl) fun i y w a b => h (i + 1) y w (by simpa using a) (by simpa using b)⟩
theorem RepVs.set {xs : List MV} {vs : List V} {x : MV} {v : V} (h : RepVs K g I xs vs) (k : Nat) (r : RepV K g I x v) : RepVs K g I (xs.set k x) (vs.set k v) := by
  refine RepVs.of_get (by simp [h.len]) fun i y w a b => ?_
  by_cases e : i = k
  · subst e
    have hi : i < xs.length := by have := (List.getElem?_eq_some_iff.mp a).1; simpa using this
    rw [List.getElem?_set_self hi] at a
    rw [List.getElem?_set_self (by rw [h.len]; exact hi)] at b
    cases a; cases b; exact r
  · rw [List.getElem?_set_ne (Ne.symm e)] at a b
    obtain ⟨w', hw, r'⟩ := h.get a
    rw [b] at hw; cases hw; exact r'
theorem RepVs.take {xs : List MV} {vs : List V} (h : RepVs K g I xs vs) (n : Nat) : RepVs K g I (xs.take n) (vs.take n) := by
  refine RepVs.of_get (by simp [h.len]) fun i y w a b => ?_
  rw [List.getElem?_take] at a b
  split at a
  · rename_i c
    rw [if_pos c] at b
    obtain ⟨w', hw, r'⟩ := h.get a
    rw [b] at hw; cases hw; exact r'
  · cases a
theorem RepVs.drop {xs : List MV} {vs : List V} (h : RepVs K g I xs vs) (n : Nat) : RepVs K g I (xs.drop n) (vs.drop n) := by
  refine RepVs.of_get (by simp [h.len]) fun i y w a b => ?_
  rw [List.getElem?_drop] at a b
  obtain ⟨w', hw, r'⟩ := h.get a
  rw [b] at hw; cases hw; exact r'
theorem RepVs.rev {xs : List MV} {vs : List V} (h : RepVs K g I xs vs) : RepVs K g I xs.reverse vs.reverse := by
  refine RepVs.of_get (by simp [h.len]) fun i y w a b => ?_
  have hi : i < xs.length := by have := (List.getElem?_eq_some_iff.mp a).1; simpa using this
  rw [List.getElem?_reverse hi] at a
  rw [List.getElem?_reverse (by rw [h.len]; exact hi), h.len] at b
  obtain ⟨w', hw, r'⟩ := h.get a
  rw [b] at hw; cases hw; exact r'
theorem RepVs.erase {xs : List MV} {vs : List V} (h : RepVs K g I xs vs) (k : Nat) : RepVs K g I (xs.eraseIdx k) (vs.eraseIdx k) := by
  refine RepVs.of_get (by simp only [List.length_eraseIdx, h.len]) fun i y w a b => ?_
  rw [List.getElem?_eraseIdx] at a b
  split at a
  · rename_i c
    rw [if_pos c] at b
    obtain ⟨w', hw, r'⟩ := h.get a
    rw [b] at hw; cases hw; exact r'
  · rename_i c
    rw [if_neg c] at b
    obtain ⟨w', hw, r'⟩ := h.get a
    rw [b] at hw; cases hw; exact r'
theorem RepVs.one {x : MV} {vs : List V} (h : RepVs K g I [x] vs) : ∃ v, vs = [v] ∧ RepV K g I x v := by
  obtain ⟨v, r, h1, h2, h3⟩ := h
  have h3 : r = [] := h3
  subst h3
  exact ⟨v, h1, h2⟩
theorem RepVs.two {x y : MV} {vs : List V} (h : RepVs K g I [x, y] vs) : ∃ v w, vs = [v, w] ∧ RepV K g I x v ∧ RepV K g I y w := by
  obtain ⟨v, r, h1, h2, h3⟩ := h
  obtain ⟨w, h4, h5⟩ := h3.one
  subst h4
  exact ⟨v, w, h1, h2, h5⟩
theorem RepVs.of_one {x : MV} {v : V} (h : RepV K g I x v) : RepVs K g I [x] [v] := ⟨v, [], rfl, h, rfl⟩
/-- mapped from plain items -/
theorem RepVs.map {α : Type} {f : α → MV} {f' : α → V} (h : ∀ a, RepV K g I (f a) (f' a)) : ∀ l : List α, RepVs K g I (l.map f) (l.map f')
  | [] => rfl
  | a :: l => ⟨f' a, l.map f', rfl, h a, RepVs.map h l⟩
/-- what a mapped list of scalars stands for -/
theorem RepVs.of_map {α : Type} {f : α → MV} {f' : α → V} (h : ∀ a v, RepV K g I (f a) v → v = f' a) : ∀ {l : List α} {vs : List V}, RepVs K g I (l.map f) vs → vs = l.map f'
  | [], _, q => q
  | a :: l, _, ⟨v, r, h1, h2, h3⟩ => by rw [h1, h a v h2, RepVs.of_map h h3]; rfl
end

/-! ### dicts and attributes -/
def keyV : MV → Option Key
  | .int i => some (.inl i)
  | .str s => some (.inr ⟨s.toArray⟩)
  | _ => none
inductive RepKV (K : PySem.W.Frag) (g : Mu) (I : Hp) : List (MV × MV) → List (Key × V) → Prop where
  | nil : RepKV K g I [] []
  | cons {k x : MV} {k' : Key} {v : V} {r : List (MV × MV)} {r' : List (Key × V)} : keyV k = some k' → RepV K g I x v → RepKV K g I r r' → RepKV K g I ((k, x) :: r) ((k', v) :: r')
inductive RepFs (K : PySem.W.Frag) (g : Mu) (I : Hp) : List (String × MV) → List (Str × V) → Prop where
  | nil : RepFs K g I [] []
  | cons {f : String} {x : MV} {v : V} {r : List (String × MV)} {r' : List (Str × V)} : RepV K g I x v → RepFs K g I r r' → RepFs K g I ((f, x) :: r) ((Str.ofString f, v) :: r')

/-- what stands at p -/
def RepO (K : PySem.W.Frag) (cl : String → Option Addr) (g : Mu) (I F H : Hp) (p : Addr) : MO → Prop
  | .lst xs => ∃ vs, H p = some (.lst vs) ∧ RepVs K g I xs vs
  | .dic false kvs => ∃ ws, H p = some (.dK ws) ∧ RepKV K g I kvs ws
  | .dic true kvs => ∃ o ws, H p = some (.frz o (.dK ws)) ∧ RepKV K g I kvs ws ∧ F p = some (.frz o (.dK ws))
  | .ins c fs => ∃ C dx ws, cl c = some C ∧ H p = some (.ins C dx ws) ∧ RepFs K g I fs ws

theorem RepKV.mono {K : PySem.W.Frag} {g g' : Mu} {I I' : Hp} (hg : LeM g g') (hI : LeH I I') {a : List (MV × MV)} {b : List (Key × V)} (h : RepKV K g I a b) : RepKV K g' I' a b := by
  induction h with
  | nil => exact .nil
  | cons h1 h2 _ ih => exact .cons h1 (h2.mono hg hI) ih
theorem RepFs.mono {K : PySem.W.Frag} {g g' : Mu} {I I' : Hp} (hg : LeM g g') (hI : LeH I I') {a : List (String × MV)} {b : List (Str × V)} (h : RepFs K g I a b) : RepFs K g' I' a b := by
  induction h with
  | nil => exact .nil
  | cons h2 _ ih => exact .cons (h2.mono hg hI) ih

/-- the store stands in the heap: F, what else is to stay, and what is locked -/
structure Sim (K : PySem.W.Frag) (cl : String → Option Addr) (g : Mu) (I F H : Hp) (st : Sto) : Prop where
  obj : ∀ a o, st[a]? = some o → ∃ p, g a = some p ∧ RepO K cl g I F H p o
  dom : ∀ a p, g a = some p → a < st.length
  inj : ∀ a b p, g a = some p → g b = some p → a = b
  ih : LeH I H
  im : ∀ a p, g a = some p → I p = none
  fh : LeH F H
  fm : ∀ a p u, g a = some p → F p = some u → ∃ o ws, u = .frz o (.dK ws)
  fi : ∀ p o, F p = some o → I p = none

section
variable {K : PySem.W.Frag} {cl : String → Option Addr} {g g' : Mu} {I I' F F' H H' : Hp} {st : Sto} {a : Nat} {p : Addr} {o : MO}
theorem RepO.mono (hg : LeM g g') (hI : LeH I I') (h : RepO K cl g I F H p o) (hp : H' p = H p) (hF : F' p = F p) : RepO K cl g' I' F' H' p o := by
  cases o with
  | lst xs => obtain ⟨vs, h1, h2⟩ := h; exact ⟨vs, by rw [hp]; exact h1, h2.mono hg hI⟩
  | dic lk kvs =>
    cases lk with
    | false => obtain ⟨ws, h1, h2⟩ := h; exact ⟨ws, by rw [hp]; exact h1, h2.mono hg hI⟩
    | true => obtain ⟨o, ws, h1, h2, h3⟩ := h; exact ⟨o, ws, by rw [hp]; exact h1, h2.mono hg hI, by rw [hF]; exact h3⟩
  | ins c fs => obtain ⟨C, dx, ws, h0, h1, h2⟩ := h; exact ⟨C, dx, ws, h0, by rw [hp]; exact h1, h2.mono hg hI⟩
theorem Sim.at_ (S : Sim K cl g I F H st) (hp : g a = some p) (hs : st[a]? = some o) : RepO K cl g I F H p o := by
  obtain ⟨q, h1, h2⟩ := S.obj a o hs
  rw [hp] at h1; cases h1; exact h2
theorem Sim.lt (S : Sim K cl g I F H st) (hs : st[a]? = some o) : a < st.length := (List.getElem?_eq_some_iff.mp hs).1
/-- a new frozen object -/
theorem Sim.frozen0 {u : HO} (S : Sim K cl g I F H st) (hn : H p = none) (hu : ∀ a q, g a = some q → q ≠ p) : Sim K cl g (upd I p u) F (upd H p u) st where
  obj := fun b o e => by
    obtain ⟨q, h1, h2⟩ := S.obj b o e
    have hI : LeH I (upd I p u) := fun z y h => by rw [upd_ne (ne_of_none (S.ih _ _ h) hn)]; exact h
    exact ⟨q, h1, h2.mono (LeM.refl _) hI (upd_ne (hu b q h1)) rfl⟩
  dom := S.dom
  inj := S.inj
  ih := fun q o h => by
    by_cases e : q = p
    · subst e; rw [upd_same] at h ⊢; exact h
    · rw [upd_ne e] at h ⊢; exact S.ih _ _ h
  im := fun b q h => by rw [upd_ne (hu b q h)]; exact S.im b q h
  fh := fun q o h => by rw [upd_ne (ne_of_none (S.fh _ _ h) hn)]; exact S.fh _ _ h
  fm := S.fm
  fi := fun q o h => by rw [upd_ne (ne_of_none (S.fh _ _ h) hn)]; exact S.fi _ _ h
theorem Sim.live (S : Sim K cl g I F H st) (h : g a = some p) : ∃ o, st[a]? = some o ∧ RepO K cl g I F H p o := by
  have hl := S.dom a p h
  exact ⟨_, List.getElem?_eq_getElem hl, S.at_ h (List.getElem?_eq_getElem hl)⟩
/-- what is in the store is tracked -/
theorem Sim.tracked (S : Sim K cl g I F H st) (h : g a = some p) : ∃ o, H p = some o := by
  obtain ⟨o, _, r⟩ := S.live h
  cases o with
  | lst xs => obtain ⟨vs, h1, _⟩ := r; exact ⟨_, h1⟩
  | dic lk kvs =>
    cases lk with
    | false => obtain ⟨ws, h1, _⟩ := r; exact ⟨_, h1⟩
    | true => obtain ⟨o, ws, h1, _⟩ := r; exact ⟨_, h1⟩
  | ins c fs => obtain ⟨C, dx, ws, _, h1, _⟩ := r; exact ⟨_, h1⟩
theorem Sim.ne_new {q : Addr} (S : Sim K cl g I F H st) (h : g a = some q) (hn : H p = none) : q ≠ p := by
  obtain ⟨o, e⟩ := S.tracked h
  exact ne_of_none e hn
/-- what is written to is not held -/
theorem Sim.open_ {u : HO} (S : Sim K cl g I F H st) (h : g a = some p) (hu : H p = some u) (hn : ∀ o ws, u ≠ .frz o (.dK ws)) : F p = none := by
  cases e : F p with
  | none => rfl
  | some w =>
    obtain ⟨o, ws, rfl⟩ := S.fm a p w h e
    have := S.fh _ _ e
    rw [hu] at this
    cases this
    exact absurd rfl (hn o ws)
theorem upd_fresh_le {u : HO} (h : LeH I H) (hn : H p = none) : LeH I (upd H p u) := fun z y q => by rw [upd_ne (ne_of_none (h _ _ q) hn)]; exact h _ _ q
theorem fresh_le {u : HO} (h : LeH I H) (hn : H p = none) : LeH I (upd I p u) := fun z y q => by rw [upd_ne (ne_of_none (h _ _ q) hn)]; exact q
theorem Sim.frozen {u : HO} (S : Sim K cl g I F H st) (hn : H p = none) : Sim K cl g (upd I p u) F (upd H p u) st := S.frozen0 hn fun _ _ h => S.ne_new h hn
/-- a new object of the store -/
def gAdd (g : Mu) (n : Nat) (p : Addr) : Mu := fun a => if a = n then some p else g a
theorem gAdd_le {n : Nat} (h : ∀ q, g n ≠ some q) : LeM g (gAdd g n p) := fun a q e => by
  unfold gAdd
  split
  · rename_i c; subst c; exact absurd e (h q)
  · exact e
theorem Sim.no (S : Sim K cl g I F H st) : ∀ q, g st.length ≠ some q := fun q e => Nat.lt_irrefl _ (S.dom _ _ e)
/-- an object is put to the store: w, what was held there -/
theorem Sim.add {u : HO} {mo : MO} (S : Sim K cl g I F' H st) (hg : ∀ a q, g a = some q → q ≠ p) (hi : I p = none) (hf : F p = none) (hF : ∀ q, q ≠ p → F' q = F q) (hr : RepO K cl (gAdd g st.length p) I F (upd H p u) p mo) :
    Sim K cl (gAdd g st.length p) I F (upd H p u) (st ++ [mo]) where
  obj := fun b o e => by
    by_cases hb : b < st.length
    · rw [List.getElem?_append_left hb] at e
      obtain ⟨q, h1, h2⟩ := S.obj b o e
      exact ⟨q, gAdd_le S.no _ _ h1, h2.mono (gAdd_le S.no) (LeH.refl _) (upd_ne (hg _ _ h1)) (hF q (hg _ _ h1)).symm⟩
    · have hb' : b = st.length := by
        have := (List.getElem?_eq_some_iff.mp e).1
        simp at this; omega
      subst hb'
      rw [List.getElem?_append_right (Nat.le_refl _)] at e
      simp at e
      subst e
      exact ⟨p, by unfold gAdd; rw [if_pos rfl], hr⟩
  dom := fun b q e => by
    unfold gAdd at e
    split at e
    · rename_i c; subst c; simp
    · have := S.dom _ _ e; simp; omega
  inj := fun b c q h1 h2 => by
    unfold gAdd at h1 h2
    split at h1
    · rename_i e1
      split at h2
      · rename_i e2; omega
      · cases h1; exact absurd rfl (hg _ _ h2)
    · split at h2
      · cases h2; exact absurd rfl (hg _ _ h1)
      · exact S.inj _ _ _ h1 h2
  ih := fun q o h => by
    rw [upd_ne (fun z => by subst z; rw [hi] at h; cases h)]
    exact S.ih _ _ h
  im := fun b q h => by
    unfold gAdd at h
    split at h
    · cases h; exact hi
    · exact S.im b q h
  fh := fun q o h => by
    have z : q ≠ p := fun z => by subst z; rw [hf] at h; cases h
    rw [upd_ne z]
    exact S.fh _ _ (by rw [hF q z]; exact h)
  fm := fun b q u h e => by
    have z : q ≠ p := fun z => by subst z; rw [hf] at e; cases e
    unfold gAdd at h
    split at h
    · cases h; exact absurd rfl z
    · exact S.fm b q u h (by rw [hF q z]; exact e)
  fi := fun q o h => by
    have z : q ≠ p := fun z => by subst z; rw [hf] at h; cases h
    exact S.fi q o (by rw [hF q z]; exact h)
theorem Sim.new {u : HO} {mo : MO} (S : Sim K cl g I F H st) (hn : H p = none) (hr : RepO K cl (gAdd g st.length p) I F (upd H p u) p mo) :
    Sim K cl (gAdd g st.length p) I F (upd H p u) (st ++ [mo]) := by
  have hf : F p = none := by
    cases e : F p with
    | none => rfl
    | some o => rw [S.fh _ _ e] at hn; cases hn
  have hi : I p = none := by
    cases e : I p with
    | none => rfl
    | some o => rw [S.ih _ _ e] at hn; cases hn
  exact S.add (fun _ _ h => S.ne_new h hn) hi hf (fun _ _ => rfl) hr
/-- what was held becomes an object of the store -/
theorem Sim.adopt {u w : HO} {mo : MO} (S : Sim K cl g I (upd F p w) H st) (hw : ∀ o ws, w ≠ .frz o (.dK ws)) (hf : F p = none) (hr : RepO K cl (gAdd g st.length p) I F (upd H p u) p mo) :
    Sim K cl (gAdd g st.length p) I F (upd H p u) (st ++ [mo]) := by
  refine S.add (fun a q e z => ?_) (S.fi p w upd_same) hf (fun q z => upd_ne z) hr
  subst z
  obtain ⟨o, ws, z⟩ := S.fm _ _ w e upd_same
  exact hw o ws z
/-- an object of the store is changed -/
theorem Sim.put {u : HO} {mo : MO} (S : Sim K cl g I F' H st) (hg : g a = some p) (hF : ∀ q, q ≠ p → F' q = F q) (hp : ∀ w, F p = some w → ∃ o ws, w = .frz o (.dK ws) ∧ u = w) (hr : RepO K cl g I F (upd H p u) p mo) : Sim K cl g I F (upd H p u) (st.set a mo) where
  obj := fun b o e => by
    by_cases hb : b = a
    · subst hb
      rw [List.getElem?_set_self (S.dom _ _ hg)] at e
      cases e
      exact ⟨p, hg, hr⟩
    · rw [List.getElem?_set_ne (Ne.symm hb)] at e
      obtain ⟨q, h1, h2⟩ := S.obj b o e
      have hq : q ≠ p := fun z => by subst z; exact hb (S.inj _ _ _ h1 hg)
      exact ⟨q, h1, h2.mono (LeM.refl _) (LeH.refl _) (upd_ne hq) (hF q hq).symm⟩
  dom := fun b q e => by rw [List.length_set]; exact S.dom b q e
  inj := S.inj
  ih := fun q o h => by
    have hq : q ≠ p := fun z => by subst z; rw [S.im _ _ hg] at h; cases h
    rw [upd_ne hq]; exact S.ih _ _ h
  im := S.im
  fh := fun q o h => by
    by_cases hq : q = p
    · subst hq
      obtain ⟨_, _, _, rfl⟩ := hp _ h
      rw [upd_same]
    · rw [upd_ne hq]; exact S.fh _ _ (by rw [hF q hq]; exact h)
  fm := fun b q w h e => by
    by_cases hq : q = p
    · subst hq
      obtain ⟨o, ws, z, _⟩ := hp w e
      exact ⟨o, ws, z⟩
    · exact S.fm b q w h (by rw [hF q hq]; exact e)
  fi := fun q o h => by
    by_cases hq : q = p
    · subst hq; exact S.im _ _ hg
    · exact S.fi q o (by rw [hF q hq]; exact h)
theorem Sim.write {u : HO} {mo : MO} (S : Sim K cl g I F H st) (hg : g a = some p) (hf : F p = none) (hr : RepO K cl g I F (upd H p u) p mo) : Sim K cl g I F (upd H p u) (st.set a mo) :=
  S.put hg (fun _ _ => rfl) (fun w e => by rw [hf] at e; cases e) hr
/-- a dict is locked -/
theorem Sim.lock {kvs : List (MV × MV)} {ws : List (Key × V)} (S : Sim K cl g I F H st) (hg : g a = some p) (hr : RepKV K g I kvs ws) (od : Obj) :
    Sim K cl g I (upd F p (.frz od (.dK ws))) (upd H p (.frz od (.dK ws))) (st.set a (.dic true kvs)) :=
  S.put hg (fun q z => (upd_ne z).symm) (fun w e => by rw [upd_same] at e; cases e; exact ⟨od, ws, rfl, rfl⟩) ⟨od, ws, upd_same, hr, upd_same⟩
theorem Sim.unlock {kvs : List (MV × MV)} {ws : List (Key × V)} {od : Obj} (S : Sim K cl g I (upd F p (.frz od (.dK ws))) H st) (hf : F p = none) (hg : g a = some p) (hs : st[a]? = some (.dic true kvs)) :
    Sim K cl g I F (upd H p (.dK ws)) (st.set a (.dic false kvs)) := by
  obtain ⟨o, ws', h1, h2, h3⟩ := S.at_ hg hs
  rw [upd_same] at h3
  cases h3
  exact S.put hg (fun q z => upd_ne z) (fun w e => by rw [hf] at e; cases e) ⟨ws, upd_same, h2⟩
/-- a further thing to stay -/
theorem Sim.frame {u : HO} (S : Sim K cl g I F H st) (hn : H p = none) : Sim K cl g I (upd F p u) (upd H p u) st where
  obj := fun b o e => by
    obtain ⟨q, h1, h2⟩ := S.obj b o e
    exact ⟨q, h1, h2.mono (LeM.refl _) (LeH.refl _) (upd_ne (S.ne_new h1 hn)) (upd_ne (S.ne_new h1 hn))⟩
  dom := S.dom
  inj := S.inj
  ih := upd_fresh_le S.ih hn
  im := S.im
  fh := fun q o h => by
    by_cases e : q = p
    · subst e; rw [upd_same] at h ⊢; exact h
    · rw [upd_ne e] at h ⊢; exact S.fh _ _ h
  fm := fun b q w h e => by rw [upd_ne (S.ne_new h hn)] at e; exact S.fm b q w h e
  fi := fun q o h => by
    by_cases e : q = p
    · subst e
      cases z : I q with
      | none => rfl
      | some o => rw [S.ih _ _ z] at hn; cases hn
    · rw [upd_ne e] at h; exact S.fi _ _ h
/-- what is held is changed -/
theorem Sim.reframe {u w : HO} (S : Sim K cl g I (upd F p w) H st) (hw : ∀ o ws, w ≠ .frz o (.dK ws)) : Sim K cl g I (upd F p u) (upd H p u) st := by
  have ng : ∀ {a q}, g a = some q → q ≠ p := fun {a q} e z => by
    subst z
    obtain ⟨o, ws, z⟩ := S.fm _ _ w e upd_same
    exact hw o ws z
  have ni : I p = none := S.fi p w upd_same
  have hF : ∀ q, q ≠ p → upd F p w q = upd F p u q := fun q z => by rw [upd_ne z, upd_ne z]
  exact {
    obj := fun b o e => by
      obtain ⟨q, h1, h2⟩ := S.obj b o e
      exact ⟨q, h1, h2.mono (LeM.refl _) (LeH.refl _) (upd_ne (ng h1)) (hF q (ng h1)).symm⟩
    dom := S.dom
    inj := S.inj
    ih := fun q o h => by
      rw [upd_ne (fun z => by subst z; rw [ni] at h; cases h)]
      exact S.ih _ _ h
    im := S.im
    fh := fun q o h => by
      by_cases e : q = p
      · subst e; rw [upd_same] at h ⊢; exact h
      · rw [upd_ne e]; rw [← hF q e] at h; exact S.fh _ _ h
    fm := fun b q w' h e => S.fm b q w' h (by rw [hF q (ng h)]; exact e)
    fi := fun q o h => by
      by_cases e : q = p
      · subst e; exact ni
      · exact S.fi q o (by rw [hF q e]; exact h) }
end

/-- what is wanted of a value, told over the real heap -/
def QV (K : PySem.W.Frag) (cl : String → Option Addr) (g : Mu) (I F : Hp) (Q : Post) : V → Hp → Prop :=
  fun v H' => ∃ g' I' x st', LeM g g' ∧ LeH I I' ∧ Sim K cl g' I' F H' st' ∧ RepV K g' I' x v ∧ Q x st'
theorem QV.from_ {K : PySem.W.Frag} {cl : String → Option Addr} {g g1 : Mu} {I I1 F : Hp} {Q : Post} {v : V} {H : Hp} (hg : LeM g g1) (hI : LeH I I1) (h : QV K cl g1 I1 F Q v H) : QV K cl g I F Q v H := by
  obtain ⟨g', I', x, st', a, b, c⟩ := h
  exact ⟨g', I', x, st', hg.trans a, hI.trans b, c⟩
theorem QV.mk {K : PySem.W.Frag} {cl : String → Option Addr} {g : Mu} {I F H : Hp} {st : Sto} {Q : Post} {x : MV} {v : V} (S : Sim K cl g I F H st) (r : RepV K g I x v) (h : Q x st) : QV K cl g I F Q v H :=
  ⟨g, I, x, st, LeM.refl _, LeH.refl _, S, r, h⟩
section
variable {K : PySem.W.Frag} {cl : String → Option Addr} {g : Mu} {I F H : Hp} {st : Sto} {Q : Post}
theorem QV.int {i : Int} (S : Sim K cl g I F H st) (h : Q (.int i) st) : QV K cl g I F Q (.int i) H := QV.mk (x := .int i) S rfl h
theorem QV.bl {b : Bool} (S : Sim K cl g I F H st) (h : Q (.bl b) st) : QV K cl g I F Q (.bl b) H := QV.mk (x := .bl b) S rfl h
theorem QV.non (S : Sim K cl g I F H st) (h : Q .non st) : QV K cl g I F Q .non H := QV.mk (x := .non) S rfl h
theorem QV.str {s : Tx} (S : Sim K cl g I F H st) (h : Q (.str s) st) : QV K cl g I F Q (.str ⟨s.toArray⟩) H := QV.mk (x := .str s) S rfl h
theorem QV.tup {p : Addr} {xs : List MV} {vs : List V} (S : Sim K cl g I F H st) (h1 : SqT K I p vs) (r : RepVs K g I xs vs) (h : Q (.tup xs) st) : QV K cl g I F Q (.ref p) H := QV.mk (x := .tup xs) S ⟨p, vs, rfl, h1, r⟩ h
theorem QV.ref {p : Addr} {a : Nat} (S : Sim K cl g I F H st) (h1 : g a = some p) (h : Q (.ref a) st) : QV K cl g I F Q (.ref p) H := QV.mk (x := .ref a) S ⟨p, h1, rfl⟩ h
end
end Snd
-- S2
namespace Snd
open PySem L2 Mi

/-- an operation's own want -/
def rSem (X : Cx) (f : Value → Value → Sem Value) : R2 := fun x y H Q => ∀ (pins : List (Addr × Obj)) (s : Shared) (σ : HS) (u1 u2 : Value), Inv X pins σ H s → RelV x u1 → RelV y u2 →
  wpAny (model X.prog X.w) X.A (f u1 u2) (EP X pins σ Q) X.xe s
theorem rSem_ok {X : Cx} {f : Value → Value → Sem Value} : OpR X f (rSem X f) := fun pins s σ _ _ _ _ _ _ I r1 r2 h => h pins s σ _ _ I r1 r2
theorem rSem_of {X : Cx} {f : Value → Value → Sem Value} {r : R2} (ho : OpR X f r) {x y : V} {H : Hp} {Q : VK} (h : r x y H Q) : rSem X f x y H Q := fun pins s σ u1 u2 I r1 r2 => ho pins s σ H x y u1 u2 Q I r1 r2 h
theorem rSem.mono {X : Cx} {f : Value → Value → Sem Value} {x y : V} {H : Hp} {Q Q' : VK} (h : rSem X f x y H Q) (hq : ∀ v H', Q v H' → Q' v H') : rSem X f x y H Q' := fun pins s σ u1 u2 I r1 r2 =>
  thn (h pins s σ u1 u2 I r1 r2) fun _ _ ⟨v, H', I', r, q⟩ => ⟨v, H', I', r, hq _ _ q⟩

def bop : BOp → Operator
  | .add => .Add | .sub => .Sub | .mul => .Mult | .fdiv => .FloorDiv | .mod => .Mod | .pow => .Pow

section
variable {K : PySem.W.Frag} {cl : String → Option Addr} {g : Mu} {I F H : Hp} {st : Sto}
theorem rep_int {i : Int} {v : V} (r : RepV K g I (.int i) v) : v = .int i := r
theorem rep_str {s : Tx} {v : V} (r : RepV K g I (.str s) v) : v = .str ⟨s.toArray⟩ := r
theorem big_eq : big = sizeLine := by rw [sizeLine_eq]; rfl
theorem len_arr (s : Tx) : (⟨s.toArray⟩ : Str).length = s.length := by simp [Str.length]
theorem app_arr (a b : Tx) : (⟨a.toArray⟩ : Str) ++ ⟨b.toArray⟩ = ⟨(a ++ b).toArray⟩ := by
  show Str.append _ _ = _
  simp [Str.append]
/-- a new list of the store -/
theorem new_list {Q : Post} {mx : List MV} {vs : List V} (S : Sim K cl g I F H st) (r : RepVs K g I mx vs) (q : Q (.ref st.length) (st ++ [.lst mx])) {p : Addr} (hn : H p = none) : QV K cl g I F Q (.ref p) (upd H p (.lst vs)) := by
  refine ⟨gAdd g st.length p, I, .ref st.length, _, gAdd_le S.no, LeH.refl _, S.new (mo := .lst mx) hn ⟨vs, upd_same, r.mono (gAdd_le S.no) (LeH.refl _)⟩, ⟨p, ?_, rfl⟩, q⟩
  unfold gAdd; rw [if_pos rfl]
/-- a new tuple -/
theorem new_tup {Q : Post} {mx : List MV} {vs : List V} (S : Sim K cl g I F H st) (r : RepVs K g I mx vs) (q : Q (.tup mx) st) {p : Addr} (hn : H p = none) : QV K cl g I F Q (.ref p) (upd H p (.tup vs)) := by
  refine ⟨g, upd I p (.tup vs), .tup mx, st, LeM.refl _, fresh_le S.ih hn, S.frozen hn, ⟨p, vs, rfl, SqT.of upd_same, r.mono (LeM.refl _) (fresh_le S.ih hn)⟩, q⟩

theorem bits_lt {x : Int} {n : Nat} (h : x.natAbs < 2 ^ n) : Builtin.Int.intBits x ≤ n + 1 := by
  unfold Builtin.Int.intBits
  split
  · omega
  · rename_i c
    have h1 : x.natAbs.log2 < n + 1 := by
      by_cases h0 : n = 0
      · subst h0
        have : x.natAbs = 0 := by omega
        rw [this]; decide
      · exact Nat.lt_succ_of_lt (PySem.Flt.log2_lt_of (by omega) h)
    omega
theorem op_powB {X : Cx} : OpR X (binaryOp .Pow) (rI (fun i j => 0 ≤ j ∧ j ≤ 1000 ∧ i.natAbs < 2 ^ 5000) fun i j => .int (i ^ j.toNat)) := opI fun i j _ _ _ _ _ hc q => by
  obtain ⟨h0, h1, h2⟩ := hc
  refine PyProof.Rows.pow_int h0 ?_ q
  have hb := bits_lt h2
  have h3 : (Builtin.Int.intBits i : Int) ≤ 5001 := by omega
  have h4 : (Builtin.Int.intBits i : Int) * j ≤ 5001 * 1000 := Int.le_trans (Int.mul_le_mul_of_nonneg_right h3 h0) (Int.mul_le_mul_of_nonneg_left h1 (by decide))
  exact Int.le_trans h4 (by decide)
theorem bin_ok {X : Cx} (o : BOp) {x y : MV} {v w : V} {Q : Post} (S : Sim X.K cl g I F H st) (rx : RepV X.K g I x v) (ry : RepV X.K g I y w) (h : opBin o x y st Q) :
    rSem X (binaryOp (bop o)) v w H (QV X.K cl g I F Q) := by
  cases x <;> cases y <;> cases o <;> first | (exact h.elim) | skip
  case int.int.add i j => cases rx; cases ry; exact rSem_of op_add ⟨i, j, rfl, rfl, QV.int S h⟩
  case int.int.sub i j => cases rx; cases ry; exact rSem_of op_sub ⟨i, j, rfl, rfl, QV.int S h⟩
  case int.int.mul i j =>
    cases rx; cases ry
    obtain ⟨h1, h2⟩ := h
    rcases h1 with h1 | h1 | ⟨h1, h3⟩
    · exact rSem_of op_mul ⟨i, j, rfl, rfl, .inl (by omega), QV.int S h2⟩
    · exact rSem_of op_mul ⟨i, j, rfl, rfl, .inr (by omega), QV.int S h2⟩
    · exact rSem_of op_mulW ⟨i, j, rfl, rfl, wide_mul h1 h3 (by decide) (by decide) (by decide), QV.int S h2⟩
  case int.int.fdiv i j =>
    cases rx; cases ry
    obtain ⟨h1, h2, h3⟩ := h
    exact rSem_of op_fdiv ⟨i, j, rfl, rfl, ⟨h1, h2⟩, QV.int S h3⟩
  case int.int.mod i j =>
    cases rx; cases ry
    obtain ⟨h1, h3⟩ := h
    exact rSem_of op_mod ⟨i, j, rfl, rfl, h1, QV.int S h3⟩
  case int.int.pow i j =>
    cases rx; cases ry
    obtain ⟨h1, h2, h4, h3⟩ := h
    exact rSem_of op_powB ⟨i, j, rfl, rfl, ⟨h1, h2, h4⟩, QV.int S h3⟩
  case str.str.add a b =>
    cases rx; cases ry
    obtain ⟨h1, h3⟩ := h
    refine rSem_of op_add_str ⟨_, _, rfl, rfl, by rw [len_arr, len_arr, ← big_eq]; exact h1, ?_⟩
    rw [app_arr]
    exact QV.str S h3
  case tup.tup.add a b =>
    obtain ⟨p, vs, rfl, h1, r1⟩ := rx
    obtain ⟨q, ws, rfl, h2, r2⟩ := ry
    obtain ⟨hl, h3⟩ := h
    have e1 := r1.len
    have e2 := r2.len
    refine rSem_of op_catA ⟨p, q, vs, ws, rfl, rfl, S.ih.tup h1, S.ih.tup h2, by rw [e1, e2, ← big_eq]; exact hl, fun e => ?_, fun _ e => ?_, fun _ _ p' hn => ?_⟩
    · subst e
      have e3 : a = [] := List.length_eq_zero_iff.mp (by rw [← e1]; rfl)
      subst e3
      exact QV.tup S h2 r2 h3
    · subst e
      have e3 : b = [] := List.length_eq_zero_iff.mp (by rw [← e2]; rfl)
      subst e3
      rw [List.append_nil] at h3
      exact QV.tup S h1 r1 h3
    · exact new_tup S (r1.app r2) h3 hn
  case ref.ref.add a b =>
    obtain ⟨p, hp, rfl⟩ := rx
    obtain ⟨q, hq, rfl⟩ := ry
    obtain ⟨xs, ys, h1, h2, hl, h3⟩ := h
    obtain ⟨vs, e1, r1⟩ := S.at_ hp h1
    obtain ⟨ws, e2, r2⟩ := S.at_ hq h2
    exact rSem_of op_cat ⟨p, q, vs, ws, rfl, rfl, e1, e2, by rw [r1.len, r2.len, ← big_eq]; exact hl, fun p' hn => new_list S (r1.app r2) h3 hn⟩
  case ref.int.mul a k =>
    obtain ⟨p, hp, rfl⟩ := rx
    cases ry
    obtain ⟨xs, h1, h0, h63, hl, h3⟩ := h
    obtain ⟨vs, e1, r1⟩ := S.at_ hp h1
    have rr : ∀ n : Nat, RepVs X.K g I (List.replicate n xs).flatten (List.replicate n vs).flatten := fun n => by
      induction n with
      | zero => exact rfl
      | succ n ih => simp only [List.replicate_succ, List.flatten_cons]; exact r1.app ih
    exact rSem_of op_rep ⟨p, k, vs, rfl, rfl, e1, by omega, h63, by rw [r1.len, ← big_eq]; exact hl, fun p' hn => new_list S (rr _) h3 hn⟩
end
end Snd
-- S3
namespace Snd
open PySem L2 Mi

mutual
def pyD : PD → PyData
  | .non => .none
  | .bl b => .bool b
  | .int i => .int i
  | .str s => .str ⟨s.toArray⟩
  | .lst xs => .list (pyDs xs)
  | .tup xs => .tuple (pyDs xs)
  | .dic kvs => .dict (pyDk kvs)
def pyDs : List PD → List PyData
  | [] => []
  | x :: xs => pyD x :: pyDs xs
def pyDk : List (PD × PD) → List (PyData × PyData)
  | [] => []
  | (k, v) :: xs => (pyD k, pyD v) :: pyDk xs
end
theorem pyDs_map : ∀ xs : List PD, pyDs xs = xs.map pyD
  | [] => rfl
  | x :: xs => by rw [pyDs, pyDs_map xs]; rfl
theorem str_beq (a b : Tx) : ((⟨a.toArray⟩ : Str) == ⟨b.toArray⟩) = (a == b) := by
  by_cases h : a = b
  · subst h; simp
  · rw [beq_eq_false_iff_ne.mpr h]
    refine beq_eq_false_iff_ne.mpr fun e => h ?_
    injection e with e
    simpa using e
mutual
theorem eqv_py : ∀ d e : PD, d.nodic = true → e.nodic = true → PyData.eqv (pyD d) (pyD e) = PD.eqv d e
  | .non, e, _, h => by cases e <;> first | (simp [PD.nodic] at h; done) | simp [pyD, PyData.eqv, PD.eqv]
  | .bl _, e, _, h => by cases e <;> first | (simp [PD.nodic] at h; done) | simp [pyD, PyData.eqv, PD.eqv]
  | .int _, e, _, h => by cases e <;> first | (simp [PD.nodic] at h; done) | simp [pyD, PyData.eqv, PD.eqv]
  | .str s, e, _, h => by
    cases e <;> first | (simp [PD.nodic] at h; done) | (simp only [pyD, PyData.eqv, PD.eqv]; done) | skip
    simp only [pyD, PyData.eqv, PD.eqv]
    exact str_beq _ _
  | .lst xs, e, h', h => by
    cases e <;> first | (simp [PD.nodic] at h; done) | (simp only [pyD, PyData.eqv, PD.eqv]; done) | skip
    simp only [pyD, PyData.eqv, PD.eqv]
    exact eqv_pys _ _ (by simpa [PD.nodic] using h') (by simpa [PD.nodic] using h)
  | .tup xs, e, h', h => by
    cases e <;> first | (simp [PD.nodic] at h; done) | (simp only [pyD, PyData.eqv, PD.eqv]; done) | skip
    simp only [pyD, PyData.eqv, PD.eqv]
    exact eqv_pys _ _ (by simpa [PD.nodic] using h') (by simpa [PD.nodic] using h)
  | .dic _, _, h, _ => by simp [PD.nodic] at h
theorem eqv_pys : ∀ d e : List PD, PD.nodicAll d = true → PD.nodicAll e = true → PyData.eqvAll (pyDs d) (pyDs e) = PD.eqvAll d e
  | [], [], _, _ => by simp [pyDs, PyData.eqvAll, PD.eqvAll]
  | [], _ :: _, _, _ => by simp [pyDs, PyData.eqvAll, PD.eqvAll]
  | _ :: _, [], _, _ => by simp [pyDs, PyData.eqvAll, PD.eqvAll]
  | x :: xs, y :: ys, h, h' => by
    simp only [PD.nodicAll, Bool.and_eq_true] at h h'
    simp only [pyDs, PyData.eqvAll, PD.eqvAll]
    rw [eqv_py x y h.1 h'.1, eqv_pys xs ys h.2 h'.2]
end
mutual
theorem fine_nodic : ∀ d : PD, d.fine = true → d.nodic = true
  | .non, _ => rfl
  | .bl _, _ => rfl
  | .int _, _ => rfl
  | .str _, _ => rfl
  | .lst xs, h => by simp only [PD.nodic]; exact fine_nodics xs (by simpa [PD.fine] using h)
  | .tup xs, h => by simp only [PD.nodic]; exact fine_nodics xs (by simpa [PD.fine] using h)
  | .dic _, h => by simp [PD.fine] at h
theorem fine_nodics : ∀ d : List PD, PD.fineAll d = true → PD.nodicAll d = true
  | [], _ => by simp [PD.nodicAll]
  | x :: xs, h => by
    simp only [PD.fineAll, Bool.and_eq_true] at h
    simp only [PD.nodicAll, Bool.and_eq_true]
    exact ⟨fine_nodic x h.1, fine_nodics xs h.2⟩
end
mutual
theorem fine_lay : ∀ d : PD, d.fine = true → (pyD d).canLay0 = true
  | .non, _ => by simp [pyD, PyData.canLay0]
  | .bl _, _ => by simp [pyD, PyData.canLay0]
  | .int _, _ => by simp [pyD, PyData.canLay0]
  | .str s, h => by
    simp only [pyD, PyData.canLay0, PyData.strOk]
    simpa [PD.fine] using h
  | .lst xs, h => by simp only [pyD, PyData.canLay0]; exact fine_lays xs (by simpa [PD.fine] using h)
  | .tup xs, h => by simp only [pyD, PyData.canLay0]; exact fine_lays xs (by simpa [PD.fine] using h)
  | .dic _, h => by simp [PD.fine] at h
theorem fine_lays : ∀ d : List PD, PD.fineAll d = true → PyData.canLayAll0 (pyDs d) = true
  | [], _ => by simp [pyDs, PyData.canLayAll0]
  | x :: xs, h => by
    simp only [PD.fineAll, Bool.and_eq_true] at h
    simp only [pyDs, PyData.canLayAll0, Bool.and_eq_true]
    exact ⟨fine_lay x h.1, fine_lays xs h.2⟩
end
theorem mapM_some {α β : Type} {f : α → Option β} : ∀ {xs : List α} {ys : List β}, xs.mapM f = some ys → ys.length = xs.length ∧ ∀ (i : Nat) (x : α), xs[i]? = some x → ∃ y, ys[i]? = some y ∧ f x = some y
  | [], ys, h => by
    simp at h; subst h; exact ⟨rfl, fun i x e => by simp at e⟩
  | x :: xs, ys, h => by
    rw [List.mapM_cons] at h
    cases e1 : f x with
    | none => rw [e1] at h; cases h
    | some y =>
      rw [e1] at h
      cases e2 : xs.mapM f with
      | none => rw [e2] at h; cases h
      | some r =>
        rw [e2] at h
        cases h
        obtain ⟨h1, h2⟩ := mapM_some e2
        refine ⟨by simp [h1], fun i z e => ?_⟩
        cases i with
        | zero => simp at e; subst e; exact ⟨y, rfl, e1⟩
        | succ i => simp at e; obtain ⟨w, a, b⟩ := h2 i z e; exact ⟨w, by simpa using a, b⟩
theorem mapM_cons_some {α β : Type} {f : α → Option β} {x : α} {xs : List α} {ys : List β} (h : (x :: xs).mapM f = some ys) : ∃ y r, f x = some y ∧ xs.mapM f = some r ∧ ys = y :: r := by
  rw [List.mapM_cons] at h
  cases e1 : f x with
  | none => rw [e1] at h; cases h
  | some y =>
    rw [e1] at h
    cases e2 : xs.mapM f with
    | none => rw [e2] at h; cases h
    | some r => rw [e2] at h; cases h; exact ⟨y, r, rfl, rfl, rfl⟩
theorem nodic_mem {ds : List PD} (h : PD.nodicAll ds = true) : ∀ d ∈ ds, d.nodic = true := by
  induction ds with
  | nil => intro d hd; cases hd
  | cons x xs ih =>
    simp only [PD.nodicAll, Bool.and_eq_true] at h
    intro d hd
    rcases List.mem_cons.mp hd with rfl | hd
    · exact h.1
    · exact ih h.2 d hd
theorem depthAll_le {n : Nat} : ∀ {ds : List PD}, (∀ d ∈ ds, (pyD d).depth ≤ n) → PyData.depthAll (pyDs ds) ≤ n
  | [], _ => by simp [pyDs, PyData.depthAll]
  | d :: ds, h => by
    have a := h d List.mem_cons_self
    have b := depthAll_le fun d hd => h d (List.mem_cons_of_mem _ hd)
    simp only [pyDs, PyData.depthAll]
    omega
theorem mapM_mem {α β : Type} {f : α → Option β} {xs : List α} {ys : List β} (h : xs.mapM f = some ys) : ∀ y ∈ ys, ∃ x ∈ xs, f x = some y := by
  intro y hy
  obtain ⟨i, hi, e⟩ := List.getElem_of_mem hy
  obtain ⟨h1, h2⟩ := mapM_some h
  obtain ⟨y', a, b⟩ := h2 i xs[i] (List.getElem?_eq_getElem (by omega))
  rw [List.getElem?_eq_getElem hi, e] at a
  cases a
  exact ⟨_, List.getElem_mem _, b⟩
theorem depth_le : ∀ (n : Nat) (st : Sto) (x : MV) (d : PD), d.nodic = true → toPD n st x = some d → (pyD d).depth ≤ n := by
  intro n
  induction n with
  | zero => intro st x d _ h; simp [toPD] at h
  | succ n ih =>
    intro st x d hd h
    have key : ∀ {xs : List MV} {ds : List PD}, PD.nodicAll ds = true → xs.mapM (toPD n st) = some ds → PyData.depthAll (pyDs ds) + 1 ≤ n + 1 := fun {xs ds} h1 h2 =>
      Nat.succ_le_succ (depthAll_le fun d hd => by
        obtain ⟨x, _, e⟩ := mapM_mem h2 d hd
        exact ih st x d (nodic_mem h1 d hd) e)
    cases x with
    | non => simp [toPD] at h; subst h; simp [pyD, PyData.depth]
    | bl b => simp [toPD] at h; subst h; simp [pyD, PyData.depth]
    | int b => simp [toPD] at h; subst h; simp [pyD, PyData.depth]
    | str b => simp [toPD] at h; subst h; simp [pyD, PyData.depth]
    | tup xs =>
      simp only [toPD, Option.map_eq_some_iff] at h
      obtain ⟨ds, h1, rfl⟩ := h
      simp only [pyD, PyData.depth]
      exact key (by simpa [PD.nodic] using hd) h1
    | lsv xs =>
      simp only [toPD, Option.map_eq_some_iff] at h
      obtain ⟨ds, h1, rfl⟩ := h
      simp only [pyD, PyData.depth]
      exact key (by simpa [PD.nodic] using hd) h1
    | ref a =>
      simp only [toPD] at h
      split at h
      · simp only [Option.map_eq_some_iff] at h
        obtain ⟨ds, h1, rfl⟩ := h
        simp only [pyD, PyData.depth]
        exact key (by simpa [PD.nodic] using hd) h1
      · simp only [Option.map_eq_some_iff] at h
        obtain ⟨ds, h1, rfl⟩ := h
        simp [PD.nodic] at hd
      · cases h

section
variable {K : PySem.W.Frag} {cl : String → Option Addr} {g : Mu} {I F H : Hp} {st : Sto}
theorem dp_all {f : MV → Option PD} (ih : ∀ (x : MV) (d : PD) (v : V), d.nodic = true → f x = some d → RepV K g I x v → Dp K H v (pyD d)) :
    ∀ {xs : List MV} {ds : List PD} {vs : List V}, PD.nodicAll ds = true → xs.mapM f = some ds → RepVs K g I xs vs → DpAll K H vs (pyDs ds)
  | [], ds, vs, _, h, r => by
    simp at h; subst h
    have r : vs = [] := r
    subst r
    exact .nil
  | x :: xs, ds, vs, hn, h, ⟨v, r, h1, h2, h3⟩ => by
    obtain ⟨y, q, e1, e2, rfl⟩ := mapM_cons_some h
    subst h1
    simp only [PD.nodicAll, Bool.and_eq_true] at hn
    exact .cons (ih x y v hn.1 e1 h2) (dp_all ih hn.2 e2 h3)
theorem dp_of (S : Sim K cl g I F H st) : ∀ (n : Nat) (x : MV) (d : PD) (v : V), d.nodic = true → toPD n st x = some d → RepV K g I x v → Dp K H v (pyD d) := by
  intro n
  induction n with
  | zero => intro x d v _ h; simp [toPD] at h
  | succ n ih =>
    intro x d v hd h r
    cases x with
    | non => simp [toPD] at h; subst h; cases r; exact .non
    | bl b => simp [toPD] at h; subst h; cases r; exact .bl b
    | int b => simp [toPD] at h; subst h; cases r; exact .int b
    | str b => simp [toPD] at h; subst h; cases r; exact .str _
    | tup xs =>
      simp only [toPD, Option.map_eq_some_iff] at h
      obtain ⟨ds, h1, rfl⟩ := h
      obtain ⟨p, vs, rfl, h2, h3⟩ := r
      exact .tup (S.ih.tup h2) (dp_all ih (by simpa [PD.nodic] using hd) h1 h3)
    | lsv xs =>
      simp only [toPD, Option.map_eq_some_iff] at h
      obtain ⟨ds, h1, rfl⟩ := h
      obtain ⟨p, vs, rfl, h2, h3⟩ := r
      exact .lst (S.ih.lst h2) (dp_all ih (by simpa [PD.nodic] using hd) h1 h3)
    | ref a =>
      obtain ⟨p, hp, rfl⟩ := r
      simp only [toPD] at h
      split at h
      · rename_i xs hs
        simp only [Option.map_eq_some_iff] at h
        obtain ⟨ds, h1, rfl⟩ := h
        obtain ⟨vs, e1, r1⟩ := S.at_ hp hs
        exact .lst (SqL.of e1) (dp_all ih (by simpa [PD.nodic] using hd) h1 r1)
      · simp only [Option.map_eq_some_iff] at h
        obtain ⟨ds, h1, rfl⟩ := h
        simp [PD.nodic] at hd
      · cases h
theorem shaped_of {n : Nat} {x : MV} {d : PD} (hn : n ≤ 64) (hf : d.fine = true) (h : toPD n st x = some d) : SeqAt.shaped (pyD d) = true := by
  unfold SeqAt.shaped
  rw [Bool.and_eq_true]
  exact ⟨fine_lay d hf, decide_eq_true (Nat.le_trans (depth_le n st x d (fine_nodic d hf) h) hn)⟩
/-- a scalar's data -/
def scD : MV → PD
  | .non => .non
  | .bl b => .bl b
  | .int i => .int i
  | .str s => .str s
  | _ => .non
theorem scalar_pd {n : Nat} {x : MV} {d : PD} (hs : scalar x = true) (h : toPD (n + 1) st x = some d) : d = scD x := by
  cases x <;> first | (simp [scalar] at hs; done) | (simp [toPD] at h; exact h.symm)
theorem scalar_mapM {n : Nat} : ∀ {ys : List MV} {ds : List PD}, ys.all scalar = true → ys.mapM (toPD (n + 1) st) = some ds → ds = ys.map scD
  | [], ds, _, h => by simp at h; exact h
  | y :: ys, ds, ha, h => by
    obtain ⟨d, r, h1, h2, rfl⟩ := mapM_cons_some h
    simp only [List.all_cons, Bool.and_eq_true] at ha
    rw [scalar_pd ha.1 h1, scalar_mapM ha.2 h2]
    rfl
def scV : MV → V
  | .non => .non
  | .bl b => .bl b
  | .int i => .int i
  | .str s => .str ⟨s.toArray⟩
  | _ => .non
theorem scalar_v {x : MV} {v : V} (hs : scalar x = true) (r : RepV K g I x v) : v = scV x := by
  cases x <;> first | (simp [scalar] at hs; done) | exact r
theorem scalar_vs {ys : List MV} {vs : List V} (hs : ys.all scalar = true) (r : RepVs K g I ys vs) : vs = ys.map scV := by
  induction ys generalizing vs with
  | nil => exact r
  | cons y ys ih =>
    obtain ⟨v, q, rfl, h2, h3⟩ := r
    simp only [List.all_cons, Bool.and_eq_true] at hs
    rw [scalar_v hs.1 h2, ih hs.2 h3]
    rfl
theorem eqV_sc {x y : MV} (hx : scalar x = true) (hy : scalar y = true) : eqV (scV x) (scV y) = PD.eqv (scD x) (scD y) := by
  cases x <;> cases y <;> first | (simp [scalar] at hx; done) | (simp [scalar] at hy; done) | (simp only [scV, scD, eqV, PD.eqv]; done) | (simp [scV, scD, eqV, PD.eqv]; done) | (simp only [scV, scD, eqV, PD.eqv]; exact str_beq _ _)
theorem flat_sc (x : MV) : flatV (scV x) = true := by cases x <;> rfl
theorem dec_str (a b : Tx) : decide ((V.str ⟨a.toArray⟩) = V.str ⟨b.toArray⟩) = (a == b) := by
  by_cases h : a = b
  · subst h; simp
  · rw [beq_eq_false_iff_ne.mpr h]
    refine decide_eq_false fun e => h ?_
    injection e with e
    injection e with e
    simpa using e
theorem dec_sc {x y : MV} (h : scal2 x y = true) : scal (scV x) (scV y) = true ∧ decide (scV x = scV y) = PD.eqv (scD x) (scD y) := by
  cases x <;> cases y <;> first | (simp [scal2, scalar] at h; done) | (simp [scV, scD, scal, PD.eqv]; done) | skip
  case bl.bl a b => refine ⟨rfl, ?_⟩; cases a <;> cases b <;> simp [scV, scD, PD.eqv]
  case int.int a b =>
    refine ⟨rfl, ?_⟩
    simp only [scV, scD, PD.eqv]
    by_cases e : a = b
    · subst e; simp
    · rw [beq_eq_false_iff_ne.mpr e]; exact decide_eq_false fun z => e (V.int.inj z)
  case str.str a b => exact ⟨rfl, by simp only [scV, scD, PD.eqv]; exact dec_str a b⟩
end
end Snd
-- S4
namespace Snd
open PySem L2 Mi

def cop : COp → CmpOp
  | .eq => .Eq | .ne => .NotEq | .lt => .Lt | .le => .LtE | .gt => .Gt | .ge => .GtE | .isN => .Is | .notN => .IsNot | .inn => .In | .nin => .NotIn

section
variable {K : PySem.W.Frag} {cl : String → Option Addr} {g : Mu} {I F H : Hp} {st : Sto}
theorem keyV_of {x : MV} {v : V} (hk : isKey x = true) (r : RepV K g I x v) : ∃ k, keyV x = some k ∧ v = kV k := by
  cases x <;> first | (simp [isKey] at hk; done) | skip
  case int i => exact ⟨.inl i, rfl, r⟩
  case str s => exact ⟨.inr ⟨s.toArray⟩, rfl, r⟩
theorem keyEq_iff {x y : MV} {k k' : Key} (h : keyV x = some k) (h' : keyV y = some k') : keyEq x y = decide (k = k') := by
  cases x <;> cases y <;> simp [keyV] at h h' <;> subst h <;> subst h'
  case int.int i j =>
    by_cases e : i = j
    · subst e; simp [keyEq]
    · simp [keyEq, e]
  case int.str i s => simp [keyEq]
  case str.int s i => simp [keyEq]
  case str.str s t =>
    by_cases e : s = t
    · subst e; simp [keyEq]
    · simp [keyEq, e]
end
section
variable {K : PySem.W.Frag} {cl : String → Option Addr} {g : Mu} {I F H : Hp} {st : Sto}
theorem RepKV.look {kvs : List (MV × MV)} {ws : List (Key × V)} (r : RepKV K g I kvs ws) {k : MV} {k' : Key} (hk : keyV k = some k') :
    (∀ x, kLook k kvs = some x → ∃ v, valV ws k' = some v ∧ RepV K g I x v) ∧ (kLook k kvs = none → valV ws k' = none) := by
  induction r with
  | nil => exact ⟨fun x h => by simp [kLook] at h, fun _ => rfl⟩
  | @cons a x a' v r r' h1 h2 _ ih =>
    have e := keyEq_iff h1 hk
    by_cases c : a' = k'
    · rw [decide_eq_true c] at e
      simp only [kLook, e, if_true]
      exact ⟨fun y hy => by cases hy; exact ⟨v, valV_pos c, h2⟩, fun z => by cases z⟩
    · rw [decide_eq_false c] at e
      simp only [kLook, e, Bool.false_eq_true, if_false]
      rw [valV_neg (p := (a', v)) c]
      exact ih
theorem RepKV.isSome {kvs : List (MV × MV)} {ws : List (Key × V)} (r : RepKV K g I kvs ws) {k : MV} {k' : Key} (hk : keyV k = some k') : (valV ws k').isSome = (kLook k kvs).isSome := by
  obtain ⟨h1, h2⟩ := r.look hk
  cases e : kLook k kvs with
  | none => rw [h2 e]; rfl
  | some x => obtain ⟨v, hv, _⟩ := h1 x e; rw [hv]; rfl
theorem RepKV.len {kvs : List (MV × MV)} {ws : List (Key × V)} (r : RepKV K g I kvs ws) : ws.length = kvs.length := by
  induction r with
  | nil => rfl
  | cons _ _ _ ih => simp [ih]
theorem RepKV.any {kvs : List (MV × MV)} {ws : List (Key × V)} (r : RepKV K g I kvs ws) {k : MV} {k' : Key} (hk : keyV k = some k') : (ws.any fun kv => decide (kv.1 = k')) = kvs.any fun p => keyEq p.1 k := by
  induction r with
  | nil => rfl
  | cons h1 _ _ ih => simp only [List.any_cons, ih, keyEq_iff h1 hk]
theorem RepKV.mapP {kvs : List (MV × MV)} {ws : List (Key × V)} (r : RepKV K g I kvs ws) {k y : MV} {k' : Key} {v : V} (hk : keyV k = some k') (hv : RepV K g I y v) :
    RepKV K g I (kvs.map fun p => if keyEq p.1 k then (p.1, y) else p) (ws.map fun kv => if kv.1 = k' then (kv.1, v) else kv) := by
  induction r with
  | nil => exact .nil
  | @cons a x a' w r r' h1 h2 _ ih =>
    simp only [List.map_cons, keyEq_iff h1 hk]
    by_cases c : a' = k'
    · simp only [c, decide_true, if_true]
      exact .cons (by rw [← c]; exact h1) hv ih
    · simp only [c, decide_false, Bool.false_eq_true, if_false]
      exact .cons h1 h2 ih
theorem RepKV.app {a c : List (MV × MV)} {b d : List (Key × V)} (r : RepKV K g I a b) (q : RepKV K g I c d) : RepKV K g I (a ++ c) (b ++ d) := by
  induction r with
  | nil => exact q
  | cons h1 h2 _ ih => exact .cons h1 h2 ih
theorem RepKV.put {kvs : List (MV × MV)} {ws : List (Key × V)} (r : RepKV K g I kvs ws) {k y : MV} {k' : Key} {v : V} (hk : keyV k = some k') (hv : RepV K g I y v) : RepKV K g I (kPut k y kvs) (putK ws k' v) := by
  unfold kPut putK
  rw [r.any hk]
  split
  · exact r.mapP hk hv
  · exact r.app (.cons hk hv .nil)
theorem RepKV.keys {kvs : List (MV × MV)} {ws : List (Key × V)} (r : RepKV K g I kvs ws) : RepVs K g I (keysOf kvs) (ws.map fun kv => kV kv.1) := by
  induction r with
  | nil => exact rfl
  | @cons a x a' w r r' h1 h2 _ ih =>
    refine ⟨_, _, rfl, ?_, ih⟩
    cases a <;> simp [keyV] at h1 <;> subst h1 <;> rfl
theorem truth_ok {x : MV} {v : V} {b : Bool} (S : Sim K cl g I F H st) (r : RepV K g I x v) (h : truth st x = some b) : TruV K v H b := by
  cases x with
  | non => cases r; simp only [truth, Option.some.injEq] at h; exact h.symm
  | bl c => cases r; simp only [truth, Option.some.injEq] at h; exact h.symm
  | int i => cases r; simp only [truth, Option.some.injEq] at h; exact h.symm
  | str s =>
    cases r
    simp only [truth] at h
    split at h
    · rename_i hl
      cases h
      refine ⟨by rw [len_arr, ← big_eq]; exact hl, ?_⟩
      rw [len_arr]
      cases s with
      | nil => rfl
      | cons c s =>
        show true = _
        symm
        simp only [List.length_cons, bne_iff_ne, ne_eq]
        omega
    · cases h
  | tup xs =>
    obtain ⟨p, vs, rfl, h1, h2⟩ := r
    simp only [truth] at h
    cases h
    refine .inr (.inl ⟨vs, S.ih.tup h1, ?_⟩)
    have e := h2.len
    cases vs <;> cases xs <;> simp at e ⊢
  | lsv xs =>
    obtain ⟨p, vs, rfl, h1, h2⟩ := r
    simp only [truth] at h
    cases h
    refine .inl ⟨vs, S.ih.lst h1, ?_⟩
    have e := h2.len
    cases vs <;> cases xs <;> simp at e ⊢
  | ref a =>
    obtain ⟨p, hp, rfl⟩ := r
    simp only [truth] at h
    split at h
    · rename_i xs hs
      cases h
      obtain ⟨vs, e1, r1⟩ := S.at_ hp hs
      refine .inl ⟨vs, SqL.of e1, ?_⟩
      have e := r1.len
      cases vs <;> cases xs <;> simp at e ⊢
    · rename_i kvs hs
      cases h
      obtain ⟨ws, e1, r1⟩ := S.at_ hp hs
      refine .inr (.inr ⟨ws, e1, ?_⟩)
      have e := r1.len
      cases ws <;> cases kvs <;> simp at e ⊢
    · cases h

theorem op_din {X : Cx} (hu : X.A.units + 1 < cLine) : OpR X (compareOp .In) (fun y x H Q => ∃ a ov, x = .ref a ∧ DGet H a y ov ∧ Q (.bl ov.isSome) H) := by
  intro pins s σ H y x v u Q I ry rx h
  obtain ⟨a, ov, rfl, gt, q⟩ := h
  cases rx
  exact d_in hu I gt ry fun s3 I3 => ⟨.bl ov.isSome, H, I3, rfl, q⟩
theorem op_dnin {X : Cx} (hu : X.A.units + 1 < cLine) : OpR X (compareOp .NotIn) (fun y x H Q => ∃ a ov, x = .ref a ∧ DGet H a y ov ∧ Q (.bl (!ov.isSome)) H) := by
  intro pins s σ H y x v u Q I ry rx h
  obtain ⟨a, ov, rfl, gt, q⟩ := h
  cases rx
  exact d_notIn hu I gt ry fun s3 I3 => ⟨.bl (!ov.isSome), H, I3, rfl, q⟩

theorem any_flat {x : MV} {ys : List MV} (hx : scalar x = true) (hy : ys.all scalar = true) : ((ys.map scD).any fun z => PD.eqv z (scD x)) = inV (scV x) (ys.map scV) := by
  unfold inV
  induction ys with
  | nil => rfl
  | cons y ys ih =>
    simp only [List.all_cons, Bool.and_eq_true] at hy
    simp only [List.map_cons, List.any_cons, ih hy.2, eqV_sc hy.1 hx]
theorem any_dp {d : PD} {ds : List PD} (h : d.nodic = true) (h' : PD.nodicAll ds = true) : ((pyDs ds).any fun z => PyData.eqv z (pyD d)) = ds.any fun z => PD.eqv z d := by
  induction ds with
  | nil => rfl
  | cons e ds ih =>
    simp only [PD.nodicAll, Bool.and_eq_true] at h'
    simp only [pyDs, List.any_cons, ih h'.2, eqv_py _ _ h'.1 h]
theorem flat_all (ys : List MV) : (ys.map scV).all flatV = true := by
  induction ys with
  | nil => rfl
  | cons y ys ih => simp only [List.map_cons, List.all_cons, flat_sc, ih, Bool.and_self]
theorem dps_all (S : Sim K cl g I F H st) {xs : List MV} {ds : List PD} {vs : List V} (n : Nat) (hd : PD.nodicAll ds = true) (h : xs.mapM (toPD n st) = some ds) (r : RepVs K g I xs vs) : DpAll K H vs (pyDs ds) :=
  dp_all (fun x d v a b c => dp_of S n x d v a b c) hd h r
theorem shaped_list {n : Nat} {xs : List MV} {ds : List PD} (hn : n + 1 ≤ 64) (hf : PD.fineAll ds = true) (h : xs.mapM (toPD n st) = some ds) : SeqAt.shaped (.list (pyDs ds)) = true :=
  shaped_of (st := st) (x := .lsv xs) (d := .lst ds) hn (by simpa [PD.fine] using hf) (by simp only [toPD, h]; rfl)

/-- in, not in a list or a tuple -/
theorem in_list {X : Cx} (hu : X.A.units + 65 < cLine) {x : MV} {ys : List MV} {v : V} {vs : List V} {p : Addr} {d : PD} {ds : List PD} {Q : Bool → Sto → Prop} (neg : Bool) (S : Sim X.K cl g I F H st) (rx : RepV X.K g I x v)
    (ry : RepVs X.K g I ys vs) (hs : SqL X.K H p vs) (h1 : toPD 30 st x = some d) (h2 : ys.mapM (toPD 30 st) = some ds) (ok : inOk x ys d ds) {Qm : Post} (q : Qm (.bl (if neg then !(ds.any fun z => PD.eqv z d) else ds.any fun z => PD.eqv z d)) st) :
    rSem X (compareOp (if neg then .NotIn else .In)) v (.ref p) H (QV X.K cl g I F Qm) := by
  rcases ok with ⟨a, b⟩ | ⟨a, b⟩
  · have e1 := scalar_v a rx
    have e2 := scalar_vs b ry
    have e3 := scalar_pd (n := 29) a h1
    have e4 := scalar_mapM (n := 29) b h2
    subst e1 e2 e3 e4
    rw [any_flat a b] at q
    cases neg with
    | false => exact rSem_of op_in_seq ⟨p, _, rfl, .inl hs, flat_sc _, flat_all _, QV.bl S q⟩
    | true => exact rSem_of op_notIn_seq ⟨p, _, rfl, .inl hs, flat_sc _, flat_all _, QV.bl S q⟩
  · have n1 := fine_nodic d a
    have n2 := fine_nodics ds b
    have D1 := dp_of S 30 x d v n1 h1 rx
    have D2 : Dp X.K H (.ref p) (.list (pyDs ds)) := .lst hs (dps_all S 30 n2 h2 ry)
    have s1 := shaped_of (n := 30) (st := st) (by decide) a h1
    have s2 := shaped_list (n := 30) (st := st) (by decide) b h2
    rw [← any_dp n1 n2] at q
    cases neg with
    | false => exact rSem_of (op_inD hu) ⟨_, _, D1, D2, s1, s2, QV.bl S q⟩
    | true => exact rSem_of (op_notInD hu) ⟨_, _, D1, D2, s1, s2, QV.bl S q⟩
theorem in_tup {X : Cx} {x : MV} {ys : List MV} {v : V} {vs : List V} {p : Addr} {d : PD} {ds : List PD} (neg : Bool) (S : Sim X.K cl g I F H st) (rx : RepV X.K g I x v)
    (ry : RepVs X.K g I ys vs) (hs : SqT X.K H p vs) (h1 : toPD 30 st x = some d) (h2 : ys.mapM (toPD 30 st) = some ds) (a : scalar x = true) (b : ys.all scalar = true) {Qm : Post} (q : Qm (.bl (if neg then !(ds.any fun z => PD.eqv z d) else ds.any fun z => PD.eqv z d)) st) :
    rSem X (compareOp (if neg then .NotIn else .In)) v (.ref p) H (QV X.K cl g I F Qm) := by
  have e1 := scalar_v a rx
  have e2 := scalar_vs b ry
  have e3 := scalar_pd (n := 29) a h1
  have e4 := scalar_mapM (n := 29) b h2
  subst e1 e2 e3 e4
  rw [any_flat a b] at q
  cases neg with
  | false => exact rSem_of op_in_seq ⟨p, _, rfl, .inr hs, flat_sc _, flat_all _, QV.bl S q⟩
  | true => exact rSem_of op_notIn_seq ⟨p, _, rfl, .inr hs, flat_sc _, flat_all _, QV.bl S q⟩
theorem in_any {X : Cx} (hu : X.A.units + 65 < cLine) {x y : MV} {v w : V} (neg : Bool) (S : Sim X.K cl g I F H st) (rx : RepV X.K g I x v) (ry : RepV X.K g I y w) {Qm : Post}
    (h : opIn x y st fun b st' => Qm (.bl (if neg then !b else b)) st') : rSem X (compareOp (if neg then .NotIn else .In)) v w H (QV X.K cl g I F Qm) := by
  cases y with
  | non => exact h.elim
  | bl b => exact h.elim
  | int i => exact h.elim
  | str t =>
    simp only [opIn] at h
    split at h
    · rename_i c
      cases rx; cases ry
      have e : decide (c ∈ (⟨t.toArray⟩ : Str).cps.toList) = t.contains c := by
        simp only [List.contains_eq_mem]
      rw [← e] at h
      cases neg with
      | false => exact rSem_of op_in_sign ⟨c, _, rfl, rfl, QV.bl S h⟩
      | true => exact rSem_of op_notIn_sign ⟨c, _, rfl, rfl, QV.bl S h⟩
    · exact h.elim
  | tup ys =>
    obtain ⟨p, vs, rfl, h1, h2⟩ := ry
    obtain ⟨d, ds, e1, e2, a, b, q⟩ := h
    exact in_tup neg S rx h2 (S.ih.tup h1) e1 e2 a b q
  | lsv ys =>
    obtain ⟨p, vs, rfl, h1, h2⟩ := ry
    obtain ⟨d, ds, e1, e2, a, q⟩ := h
    exact in_list hu (Q := fun _ _ => True) neg S rx h2 (S.ih.lst h1) e1 e2 a q
  | ref a =>
    obtain ⟨p, hp, rfl⟩ := ry
    simp only [opIn] at h
    split at h
    · rename_i ys hs
      obtain ⟨d, ds, e1, e2, a, q⟩ := h
      obtain ⟨vs, e3, r1⟩ := S.at_ hp hs
      exact in_list hu (Q := fun _ _ => True) neg S rx r1 (SqL.of e3) e1 e2 a q
    · rename_i lk kvs hs
      obtain ⟨hk, q⟩ := h
      obtain ⟨k, ek, rfl⟩ := keyV_of hk rx
      have key : ∃ ws, Rd H p (.dK ws) ∧ RepKV X.K g I kvs ws := by
        cases lk with
        | false => obtain ⟨ws, e1, r1⟩ := S.at_ hp hs; exact ⟨ws, .inl e1, r1⟩
        | true => obtain ⟨o, ws, e1, r1, _⟩ := S.at_ hp hs; exact ⟨ws, .inr ⟨o, e1⟩, r1⟩
      obtain ⟨ws, e1, r1⟩ := key
      rw [← r1.isSome ek] at q
      cases neg with
      | false => exact rSem_of (op_din (by omega)) ⟨p, _, rfl, .inl ⟨ws, k, e1, rfl, rfl⟩, QV.bl S q⟩
      | true => exact rSem_of (op_dnin (by omega)) ⟨p, _, rfl, .inl ⟨ws, k, e1, rfl, rfl⟩, QV.bl S q⟩
    · exact h.elim
/-- dicts of which one is void, or not of one length -/
def rDq (f : Bool → Bool) : R2 := fun x y H Q => ∃ a b ks ls, x = .ref a ∧ y = .ref b ∧ H a = some (.dK ks) ∧ H b = some (.dK ls) ∧ (ks.length = ls.length → ks = []) ∧ Q (.bl (f (ks.length == ls.length))) H
theorem op_dq {X : Cx} (hu : X.A.units < cLine) : OpR X (compareOp .Eq) (rDq fun b => b) := by
  intro pins s σ H x y v u Q I rx ry h
  obtain ⟨a, b, ks, ls, rfl, rfl, ea, eb, hv, q⟩ := h
  obtain rfl : v = Value.ref a := rx
  obtain rfl : u = Value.ref b := ry
  obtain ⟨_, ya, va, ra, da⟩ := (show ObjOk X.prog X.w H s.heap a (.dK ks) from I.hok a _ ea)
  obtain ⟨_, yb, vb, rb, db⟩ := (show ObjOk X.prog X.w H s.heap b (.dK ls) from I.hok b _ eb)
  have la := ra.length
  have lb := rb.length
  refine PySem.W.keq_eq (knd := mixKind X.prog X.w) (r := true) ya yb da db hu (fun hl => ?_) (fin_bl I q (by simp [← la, ← lb]))
  have e : ks = [] := hv (by simpa [la, lb] using hl)
  subst e
  exact hits_all rb ra (by simp)
theorem op_dqn {X : Cx} (hu : X.A.units < cLine) : OpR X (compareOp .NotEq) (rDq fun b => !b) := by
  intro pins s σ H x y v u Q I rx ry h
  obtain ⟨a, b, ks, ls, rfl, rfl, ea, eb, hv, q⟩ := h
  obtain rfl : v = Value.ref a := rx
  obtain rfl : u = Value.ref b := ry
  obtain ⟨_, ya, va, ra, da⟩ := (show ObjOk X.prog X.w H s.heap a (.dK ks) from I.hok a _ ea)
  obtain ⟨_, yb, vb, rb, db⟩ := (show ObjOk X.prog X.w H s.heap b (.dK ls) from I.hok b _ eb)
  have la := ra.length
  have lb := rb.length
  refine PySem.W.keq_ne (knd := mixKind X.prog X.w) (r := true) ya yb da db hu (fun hl => ?_) (fin_bl I q (by simp [← la, ← lb]))
  have e : ks = [] := hv (by simpa [la, lb] using hl)
  subst e
  exact hits_all rb ra (by simp)
theorem deq_ok {X : Cx} (hu : X.A.units + 65 < cLine) {x y : MV} {v w : V} {Qm : Post} (S : Sim X.K cl g I F H st) (rx : RepV X.K g I x v) (ry : RepV X.K g I y w)
    (h : dEq x y st fun b => Qm (.bl b) st) : rSem X (compareOp .Eq) v w H (QV X.K cl g I F Qm) := by
  obtain ⟨a, b, ks, ls, rfl, rfl, e1, e2, hv, q⟩ := h
  obtain ⟨p, hp, rfl⟩ := rx
  obtain ⟨p2, hp2, rfl⟩ := ry
  obtain ⟨ws, e3, r1⟩ := S.at_ hp e1
  obtain ⟨us, e4, r2⟩ := S.at_ hp2 e2
  refine rSem_of (op_dq (by omega)) ⟨p, p2, ws, us, rfl, rfl, e3, e4, fun hl => ?_, QV.bl S (by simpa [r1.len, r2.len] using q)⟩
  have := hv (by rw [← r1.len, ← r2.len]; exact hl)
  exact List.eq_nil_of_length_eq_zero (by rw [r1.len, this]; rfl)
theorem dne_ok {X : Cx} (hu : X.A.units + 65 < cLine) {x y : MV} {v w : V} {Qm : Post} (S : Sim X.K cl g I F H st) (rx : RepV X.K g I x v) (ry : RepV X.K g I y w)
    (h : dEq x y st fun b => Qm (.bl (!b)) st) : rSem X (compareOp .NotEq) v w H (QV X.K cl g I F Qm) := by
  obtain ⟨a, b, ks, ls, rfl, rfl, e1, e2, hv, q⟩ := h
  obtain ⟨p, hp, rfl⟩ := rx
  obtain ⟨p2, hp2, rfl⟩ := ry
  obtain ⟨ws, e3, r1⟩ := S.at_ hp e1
  obtain ⟨us, e4, r2⟩ := S.at_ hp2 e2
  refine rSem_of (op_dqn (by omega)) ⟨p, p2, ws, us, rfl, rfl, e3, e4, fun hl => ?_, QV.bl S (by simpa [r1.len, r2.len] using q)⟩
  have := hv (by rw [← r1.len, ← r2.len]; exact hl)
  exact List.eq_nil_of_length_eq_zero (by rw [r1.len, this]; rfl)
theorem cmp_ok {X : Cx} (hu : X.A.units + 65 < cLine) (o : COp) {x y : MV} {v w : V} {Qm : Post} (S : Sim X.K cl g I F H st) (rx : RepV X.K g I x v) (ry : RepV X.K g I y w)
    (h : opCmp o x y st fun b st' => Qm (.bl b) st') : rSem X (compareOp (cop o)) v w H (QV X.K cl g I F Qm) := by
  cases o with
  | eq =>
    rcases h with ⟨d, e, h1, h2, ok, q⟩ | hd
    case inr => exact deq_ok hu S rx ry hd
    rcases ok with ok | ⟨a, b⟩
    · have hs : scalar x = true ∧ scalar y = true := by
        cases x <;> cases y <;> simp [scal2, scalar] at ok ⊢
      have e1 := scalar_v hs.1 rx
      have e2 := scalar_v hs.2 ry
      have e3 := scalar_pd (n := 29) hs.1 h1
      have e4 := scalar_pd (n := 29) hs.2 h2
      subst e1 e2 e3 e4
      obtain ⟨c1, c2⟩ := dec_sc ok
      rw [← c2] at q
      exact rSem_of op_eq ⟨c1, QV.bl S q⟩
    · rw [← eqv_py _ _ (fine_nodic _ a) (fine_nodic _ b)] at q
      exact rSem_of (op_eqD (by omega)) ⟨_, _, dp_of S 30 x d v (fine_nodic _ a) h1 rx, dp_of S 30 y e w (fine_nodic _ b) h2 ry, shaped_of (n := 30) (by decide) a h1, shaped_of (n := 30) (by decide) b h2, QV.bl S q⟩
  | ne =>
    rcases h with ⟨d, e, h1, h2, ok, q⟩ | hd
    case inr => exact dne_ok hu S rx ry hd
    rcases ok with ok | ⟨a, b⟩
    · have hs : scalar x = true ∧ scalar y = true := by
        cases x <;> cases y <;> simp [scal2, scalar] at ok ⊢
      have e1 := scalar_v hs.1 rx
      have e2 := scalar_v hs.2 ry
      have e3 := scalar_pd (n := 29) hs.1 h1
      have e4 := scalar_pd (n := 29) hs.2 h2
      subst e1 e2 e3 e4
      obtain ⟨c1, c2⟩ := dec_sc ok
      rw [← c2] at q
      exact rSem_of op_ne ⟨c1, QV.bl S q⟩
    · rw [← eqv_py _ _ (fine_nodic _ a) (fine_nodic _ b)] at q
      exact rSem_of (op_neD (by omega)) ⟨_, _, dp_of S 30 x d v (fine_nodic _ a) h1 rx, dp_of S 30 y e w (fine_nodic _ b) h2 ry, shaped_of (n := 30) (by decide) a h1, shaped_of (n := 30) (by decide) b h2, QV.bl S q⟩
  | lt => obtain ⟨i, j, rfl, rfl, q⟩ := h; cases rx; cases ry; exact rSem_of op_lt ⟨i, j, rfl, rfl, QV.bl S q⟩
  | le => obtain ⟨i, j, rfl, rfl, q⟩ := h; cases rx; cases ry; exact rSem_of op_le ⟨i, j, rfl, rfl, QV.bl S q⟩
  | gt => obtain ⟨i, j, rfl, rfl, q⟩ := h; cases rx; cases ry; exact rSem_of op_gt ⟨i, j, rfl, rfl, QV.bl S q⟩
  | ge => obtain ⟨i, j, rfl, rfl, q⟩ := h; cases rx; cases ry; exact rSem_of op_ge ⟨i, j, rfl, rfl, QV.bl S q⟩
  | isN =>
    obtain ⟨rfl, q⟩ := h
    cases ry
    refine rSem_of op_isN ⟨rfl, QV.bl S ?_⟩
    cases x <;> first | (cases rx; simpa using q) | (obtain ⟨p, vs, rfl, _⟩ := rx; simpa using q) | (obtain ⟨p, hp, rfl⟩ := rx; simpa using q)
  | notN =>
    obtain ⟨rfl, q⟩ := h
    cases ry
    refine rSem_of op_notN ⟨rfl, QV.bl S ?_⟩
    cases x <;> first | (cases rx; simpa using q) | (obtain ⟨p, vs, rfl, _⟩ := rx; simpa using q) | (obtain ⟨p, hp, rfl⟩ := rx; simpa using q)
  | inn => exact in_any hu false S rx ry h
  | nin => exact in_any hu true S rx ry h
end
end Snd
-- S5
namespace Snd
open PySem L2 Mi

/-! ### texts -/
def toS (s : Tx) : Str := ⟨s.toArray⟩
theorem toS_inj {a b : Tx} (h : toS a = toS b) : a = b := by
  injection h with h
  simpa using h
theorem join_toS (s : Tx) : ∀ ws : List Tx, Str.join (toS s) (ws.map toS) = toS (joinBy s ws)
  | [] => rfl
  | [w] => rfl
  | w :: u :: ws => by
    have ih := join_toS s (u :: ws)
    show toS w ++ toS s ++ Str.join (toS s) (toS u :: ws.map toS) = toS (w ++ s ++ joinBy s (u :: ws))
    rw [show Str.join (toS s) (toS u :: ws.map toS) = toS (joinBy s (u :: ws)) from ih]
    unfold toS
    rw [app_arr, app_arr]
theorem splitOn_ne (c : Nat) : ∀ s : Tx, splitOn c s ≠ []
  | [] => by simp [splitOn]
  | x :: r => by
    have ih := splitOn_ne c r
    simp only [splitOn]
    split
    · simp
    · split <;> simp
theorem splitOn_free (c : Nat) : ∀ (s : Tx), ∀ w ∈ splitOn c s, c ∉ w
  | [], w, h => by simp [splitOn] at h; subst h; simp
  | x :: r, w, h => by
    have ih := splitOn_free c r
    simp only [splitOn] at h
    split at h
    · rcases List.mem_cons.mp h with rfl | h
      · simp
      · exact ih w h
    · rename_i hx
      split at h
      · rename_i e
        simp at h; subst h
        simpa using fun z => hx z.symm
      · rename_i v vs e
        rcases List.mem_cons.mp h with rfl | h
        · have := ih v (by rw [e]; exact List.mem_cons_self)
          simp only [List.mem_cons, not_or]
          exact ⟨fun z => hx z.symm, this⟩
        · exact ih w (by rw [e]; exact List.mem_cons_of_mem _ h)
theorem joinBy_cons (s w : Tx) {ws : List Tx} (h : ws ≠ []) : joinBy s (w :: ws) = w ++ s ++ joinBy s ws := by
  cases ws with
  | nil => exact absurd rfl h
  | cons u r => rfl
theorem joinBy_cc (s w u : Tx) (r : List Tx) : joinBy s (w :: u :: r) = w ++ s ++ joinBy s (u :: r) := rfl
theorem splitOn_join (c : Nat) : ∀ s : Tx, joinBy [c] (splitOn c s) = s
  | [] => rfl
  | x :: r => by
    have ih := splitOn_join c r
    have hn := splitOn_ne c r
    simp only [splitOn]
    split
    · rename_i e
      rw [joinBy_cons _ _ hn, ih, e]; rfl
    · split
      · rename_i e; exact absurd e hn
      · rename_i v vs e
        rw [e] at ih
        cases vs with
        | nil => simp only [joinBy] at ih ⊢; rw [ih]
        | cons u q =>
          rw [joinBy_cons _ _ (by simp)] at ih ⊢
          rw [← ih]; rfl
theorem cut_eq {c : Nat} : ∀ {a b x y : Tx}, c ∉ a → c ∉ b → a ++ c :: x = b ++ c :: y → a = b ∧ x = y
  | [], [], x, y, _, _, h => by simp at h; exact ⟨rfl, h⟩
  | [], b :: bs, x, y, _, hb, h => by
    simp at h
    exact absurd (by rw [h.1]; exact List.mem_cons_self) hb
  | a :: as, [], x, y, ha, _, h => by
    simp at h
    exact absurd (by rw [h.1]; exact List.mem_cons_self) ha
  | a :: as, b :: bs, x, y, ha, hb, h => by
    simp at h
    obtain ⟨h1, h2⟩ := h
    obtain ⟨e1, e2⟩ := cut_eq (fun z => ha (List.mem_cons_of_mem _ z)) (fun z => hb (List.mem_cons_of_mem _ z)) h2
    exact ⟨by rw [h1, e1], e2⟩
theorem join_inj {c : Nat} : ∀ {ws vs : List Tx}, ws ≠ [] → vs ≠ [] → (∀ w ∈ ws, c ∉ w) → (∀ w ∈ vs, c ∉ w) → joinBy [c] ws = joinBy [c] vs → ws = vs
  | [], _, h, _, _, _, _ => absurd rfl h
  | _ :: _, [], _, h, _, _, _ => absurd rfl h
  | [w], [v], _, _, _, _, h => by simp only [joinBy] at h; rw [h]
  | [w], v :: u :: vs, _, _, h1, h2, h => by
    rw [joinBy_cc, show joinBy [c] [w] = w from rfl] at h
    exact absurd (by rw [h]; simp) (h1 w List.mem_cons_self)
  | w :: u :: ws, [v], _, _, h1, h2, h => by
    rw [joinBy_cc, show joinBy [c] [v] = v from rfl] at h
    exact absurd (by rw [← h]; simp) (h2 v List.mem_cons_self)
  | w :: u :: ws, v :: u' :: vs, _, _, h1, h2, h => by
    rw [joinBy_cc, joinBy_cc] at h
    have h' : w ++ c :: joinBy [c] (u :: ws) = v ++ c :: joinBy [c] (u' :: vs) := by simpa using h
    obtain ⟨e1, e2⟩ := cut_eq (h1 w List.mem_cons_self) (h2 v List.mem_cons_self) h'
    rw [e1, join_inj (by simp) (by simp) (fun z hz => h1 z (List.mem_cons_of_mem _ hz)) (fun z hz => h2 z (List.mem_cons_of_mem _ hz)) e2]
theorem toS_surj (z : Str) : ∃ t, z = toS t := ⟨z.cps.toList, by cases z; simp [toS]⟩
theorem toS_map_surj : ∀ zs : List Str, ∃ ts : List Tx, zs = ts.map toS
  | [] => ⟨[], rfl⟩
  | z :: zs => by
    obtain ⟨t, rfl⟩ := toS_surj z
    obtain ⟨ts, rfl⟩ := toS_map_surj zs
    exact ⟨t :: ts, rfl⟩
theorem split_toS (c : Nat) (s : Tx) : Txt.split (toS s) ⟨#[c]⟩ = (splitOn c s).map toS := by
  obtain ⟨ts, h⟩ := toS_map_surj (Txt.split (toS s) ⟨#[c]⟩)
  rw [h]
  have h1 := StrLaws.join_split (toS s) ⟨#[c]⟩
  rw [h, show (⟨#[c]⟩ : Str) = toS [c] from rfl, join_toS] at h1
  have h1 := toS_inj h1
  have h2 := StrLaws.split_free (toS s) c
  have h3 := PyProof.Rows.split_pos (toS s) ⟨#[c]⟩
  rw [h] at h2 h3
  rw [join_inj (c := c) (ws := ts) (vs := splitOn c s) (by intro e; subst e; simp at h3) (splitOn_ne c s) (fun w hw => by
    have := h2 (toS w) (List.mem_map_of_mem hw)
    simpa [toS] using this) (splitOn_free c s) (by rw [h1, splitOn_join])]
theorem cut_map {K : PySem.W.Frag} {g : Mu} {I : Hp} {xs : List MV} {vs : List V} (r : RepVs K g I xs vs) (lo hi : Option Int) : RepVs K g I (cut xs lo hi) (cutV vs lo hi) := by
  have e : ∀ (n d : Nat) (o : Option Int), Mi.sIx n d o = HT.sIx n d o := fun n d o => by cases o <;> rfl
  unfold cut cutV
  rw [r.len, e, e]
  exact (r.drop _).take _
theorem cut_str (s : Tx) (lo hi : Option Int) : cutS (toS s) lo hi = toS (cut s lo hi) := by
  have e : ∀ (n d : Nat) (o : Option Int), Mi.sIx n d o = HT.sIx n d o := fun n d o => by cases o <;> rfl
  unfold cutS cut toS
  rw [len_arr, e, e]
theorem ixOf_eq (n : Nat) (i : Int) : ixOf n i = ixN n i := rfl

/-! ### x[i] -/
/-- a subscript's own want -/
def iSem (X : Cx) : R2 := fun x y H Q => ∀ (value slice : Expr) (pins : List (Addr × Obj)) (s : Shared) (σ : HS) (v u : Value), Inv X pins σ H s → RelV x v → RelV y u →
  subscripted slice false v u = operate [v, u] (getItem v u) → wpAny (model X.prog X.w) X.A (PyProof.Rows.subscriptTail value slice v u) (EP X pins σ Q) X.xe s
theorem iSem_ok {X : Cx} : IxR X (iSem X) := fun value slice pins s σ _ _ _ v u _ I r1 r2 h hs => h value slice pins s σ v u I r1 r2 hs
theorem iSem_of {X : Cx} {r : R2} (ho : IxR X r) {x y : V} {H : Hp} {Q : VK} (h : r x y H Q) : iSem X x y H Q := fun value slice pins s σ v u I r1 r2 hs => ho value slice pins s σ _ x y v u Q I r1 r2 h hs
theorem ix_dic {X : Cx} (hu : X.A.units + 1 < cLine) : IxR X (fun x y H Q => ∃ a v, x = .ref a ∧ DGet H a y (some v) ∧ Q v H) := by
  intro value slice pins s σ H x y v u Q I rx ry h hs
  obtain ⟨a, w, rfl, gt, q⟩ := h
  cases rx
  exact PyProof.Rows.tail_any (dict_typeIs I gt) PySem.F.slot_dict_getitem.lookup (d_getItem hu I gt ry fun w' s3 I3 rw' => ⟨w, H, I3, rw', q⟩) hs
section
variable {K : PySem.W.Frag} {cl : String → Option Addr} {g : Mu} {I F H : Hp} {st : Sto}
theorem ix_seqV {X : Cx} {xs : List MV} {vs : List V} {n : Int} {y : MV} (r : RepVs K g I xs vs) (h : (ixOf xs.length n).bind (xs[·]?) = some y) : ∃ v, atI vs n = some v ∧ RepV K g I y v := by
  unfold atI
  rw [r.len, ← ixOf_eq]
  cases e : ixOf xs.length n with
  | none => rw [e] at h; cases h
  | some k =>
    rw [e] at h
    exact r.get h
theorem sub_ok {X : Cx} (hu : X.A.units + 65 < cLine) {x i : MV} {v w : V} {Q : Post} (S : Sim X.K cl g I F H st) (rx : RepV X.K g I x v) (ry : RepV X.K g I i w) (h : opSub x i st Q) : iSem X v w H (QV X.K cl g I F Q) := by
  cases x with
  | non => exact h.elim
  | bl b => exact h.elim
  | int i => exact h.elim
  | str s =>
    obtain ⟨n, c, rfl, hl, hi, q⟩ := h
    cases rx; cases ry
    refine iSem_of ix_str ⟨_, n, c, rfl, rfl, by rw [len_arr, ← big_eq]; exact hl, ?_, QV.str (s := [c]) S q⟩
    exact hi
  | tup xs =>
    obtain ⟨n, y, rfl, hi, q⟩ := h
    obtain ⟨p, vs, rfl, h1, h2⟩ := rx
    cases ry
    obtain ⟨z, e, r⟩ := ix_seqV (X := X) h2 hi
    exact iSem_of ix_tup ⟨p, vs, n, z, rfl, rfl, S.ih.tup h1, e, QV.mk S r q⟩
  | lsv xs =>
    obtain ⟨n, y, rfl, hi, q⟩ := h
    obtain ⟨p, vs, rfl, h1, h2⟩ := rx
    cases ry
    obtain ⟨z, e, r⟩ := ix_seqV (X := X) h2 hi
    exact iSem_of ix_list ⟨p, vs, n, z, rfl, rfl, S.ih.lst h1, e, QV.mk S r q⟩
  | ref a =>
    obtain ⟨p, hp, rfl⟩ := rx
    simp only [opSub] at h
    split at h
    · rename_i xs hs
      obtain ⟨n, y, rfl, hi, q⟩ := h
      obtain ⟨vs, e1, r1⟩ := S.at_ hp hs
      cases ry
      obtain ⟨z, e, r⟩ := ix_seqV (X := X) r1 hi
      exact iSem_of ix_list ⟨p, vs, n, z, rfl, rfl, SqL.of e1, e, QV.mk S r q⟩
    · rename_i lk kvs hs
      obtain ⟨y, hk, hl, q⟩ := h
      obtain ⟨k, ek, rfl⟩ := keyV_of hk ry
      have key : ∃ ws, Rd H p (.dK ws) ∧ RepKV X.K g I kvs ws := by
        cases lk with
        | false => obtain ⟨ws, e1, r1⟩ := S.at_ hp hs; exact ⟨ws, .inl e1, r1⟩
        | true => obtain ⟨o, ws, e1, r1, _⟩ := S.at_ hp hs; exact ⟨ws, .inr ⟨o, e1⟩, r1⟩
      obtain ⟨ws, e1, r1⟩ := key
      obtain ⟨z, e2, r2⟩ := (r1.look ek).1 y hl
      exact iSem_of (ix_dic (by omega)) ⟨p, z, rfl, .inl ⟨ws, k, e1, rfl, e2.symm⟩, QV.mk S r2 q⟩
    · exact h.elim

/-! ### slices -/
def slSem (X : Cx) : V → Option Int → Option Int → Hp → VK → Prop := fun x lo hi H Q => ∀ (pins : List (Addr × Obj)) (s : Shared) (σ : HS) (v vl vu : Value) (sl : Addr), Inv X pins σ H s → RelV x v → s.heap.IsSliceOf sl vl vu .none → IsPart vl lo → IsPart vu hi →
    ∃ T id, typeLookup (.type T) "__getitem__" = pure (some (.builtin id)) ∧ s.TypeIs v T ∧ wpAny (model X.prog X.w) X.A (getItem v (.ref sl)) (EP X pins σ Q) X.xe s
theorem slSem_ok {X : Cx} : L2.SlR X (slSem X) := fun pins s σ _ _ v vl vu _ _ sl _ I r hs p1 p2 h => h pins s σ v vl vu sl I r hs p1 p2
theorem slSem_of {X : Cx} {r : V → Option Int → Option Int → Hp → VK → Prop} (ho : L2.SlR X r) {x : V} {lo hi : Option Int} {H : Hp} {Q : VK} (h : r x lo hi H Q) : slSem X x lo hi H Q :=
  fun pins s σ v vl vu sl I r1 hs p1 p2 => ho pins s σ H x v vl vu lo hi sl Q I r1 hs p1 p2 h
theorem sli_ok {X : Cx} {x : MV} {v : V} {lo hi : Option Int} {Q : Post} (S : Sim X.K cl g I F H st) (rx : RepV X.K g I x v) (h : opSli x lo hi st Q) : slSem X v lo hi H (QV X.K cl g I F Q) := by
  cases x with
  | non => exact h.elim
  | bl b => exact h.elim
  | int i => exact h.elim
  | lsv i => exact h.elim
  | str s =>
    obtain ⟨hl, q⟩ := h
    cases rx
    refine slSem_of sl_str ⟨_, rfl, by rw [len_arr, ← big_eq]; exact hl, ?_⟩
    rw [show (⟨s.toArray⟩ : Str) = toS s from rfl, cut_str]
    exact QV.str S q
  | tup xs =>
    obtain ⟨p, vs, rfl, h1, h2⟩ := rx
    have hc := cut_map h2 lo hi
    refine slSem_of sl_tupA ⟨p, vs, rfl, S.ih.tup h1, fun e => ?_, fun _ p' hn => new_tup S hc h hn⟩
    have e2 : cutV vs lo hi = vs := by
      unfold cutV
      rw [e.1, e.2]; simp
    have e3 : cut xs lo hi = xs := by
      have el : vs.length = xs.length := h2.len
      have e' : ∀ (n d : Nat) (o : Option Int), Mi.sIx n d o = HT.sIx n d o := fun n d o => by cases o <;> rfl
      unfold cut
      rw [e', e', ← el, e.1, e.2, el]; simp
    have h : Q (.tup (cut xs lo hi)) st := h
    rw [e3] at h
    exact QV.tup S h1 h2 h
  | ref a =>
    obtain ⟨p, hp, rfl⟩ := rx
    simp only [opSli] at h
    split at h
    · rename_i xs hs
      obtain ⟨vs, e1, r1⟩ := S.at_ hp hs
      exact slSem_of sl_list ⟨p, vs, rfl, SqL.of e1, fun p' hn => new_list S (cut_map r1 lo hi) h hn⟩
    · exact h.elim
end
end Snd
-- S6
namespace Snd
open PySem L2 Mi

/-- a call's own want -/
def cSem (X : Cx) (f : Value) : List V → Hp → VK → Prop := fun xs H Q => ∀ (pins : List (Addr × Obj)) (s : Shared) (σ : HS) (us : List Value), Inv X pins σ H s → Vals xs us →
  wpAny (model X.prog X.w) X.A (call f us) (EP X pins σ Q) X.xe s
theorem cSem_ok {X : Cx} {f : Value} : CallR X f (cSem X f) := fun pins s σ _ _ us _ I r h => h pins s σ us I r
theorem cSem_of {X : Cx} {f : Value} {r : List V → Hp → VK → Prop} (ho : CallR X f r) {xs : List V} {H : Hp} {Q : VK} (h : r xs H Q) : cSem X f xs H Q := fun pins s σ us I r1 => ho pins s σ _ xs us Q I r1 h

def bval : Blt → Value
  | .len => .builtin "len" | .abs => .builtin "abs" | .int => .type "int" | .str => .type "str" | .list => .type "list" | .tuple => .type "tuple" | .max => .builtin "max" | .min => .builtin "min"
  | .sum => .builtin "sum" | .all => .builtin "all" | .any => .builtin "any" | .sorted => .builtin "sorted" | .repr => .builtin "repr" | .dict => .type "dict" | .set => .type "set" | .range => .type "range"
def rpD (d : PD) : Tx := (pyD d).shown.cps.toList
theorem toS_list (z : Str) : toS z.cps.toList = z := by cases z; simp [toS]
theorem toS_rp (d : PD) : toS (rpD d) = (pyD d).shown := toS_list _
theorem len_rp (d : PD) : (rpD d).length = (pyD d).shown.length := by simp [rpD, Str.length]

theorem nat_str (n : Nat) : (toString n : String).toList.map Char.toNat = natTx n := by
  show (Nat.repr n).toList.map Char.toNat = _
  unfold natTx Nat.repr
  simp
theorem int_str (i : Int) : (toString i : String).toList.map Char.toNat = intTx i := by
  cases i with
  | ofNat n => exact nat_str n
  | negSucc n =>
    show (Int.repr (Int.negSucc n)).toList.map Char.toNat = _
    show (("-" ++ Nat.repr (n + 1) : String)).toList.map Char.toNat = 45 :: natTx (n + 1)
    rw [String.toList_append, List.map_append]
    rw [show (Nat.repr (n + 1)).toList.map Char.toNat = natTx (n + 1) from nat_str (n + 1)]
    rfl
theorem ofS (x : String) : Str.ofString x = toS (x.toList.map Char.toNat) := by
  rw [Str.ofString_eq_toList]
  rfl
theorem ofS_inj {a b : String} (h : Str.ofString a = Str.ofString b) : a = b := by
  rw [ofS, ofS] at h
  have h := toS_inj h
  apply String.toList_inj.mp
  exact List.map_inj_right (fun x y e => Char.toNat_inj.mp e) |>.mp h
theorem int_toS (i : Int) : Str.ofString (toString i) = toS (intTx i) := by rw [ofS, int_str]

/-- digits read -/
theorem digits_read (s : Tx) : (∀ c ∈ s, 48 ≤ c ∧ c ≤ 57) → ∀ (p : Array Nat) (b : Bool), s ≠ [] → s.foldlM (NumText.step 10) (p, b) = some ((p ++ (s.map (· - 48)).toArray), true) := by
  induction s with
  | nil => intro _ p b h; exact absurd rfl h
  | cons c s ih =>
    intro h p b _
    have hc := h c List.mem_cons_self
    have e : NumText.step 10 (p, b) c = some (p.push (c - 48), true) := by
      unfold NumText.step NumText.digit?
      have h1 : (c == 95) = false := by simp; omega
      have h2 : (48 ≤ c && c ≤ 57) = true := by simp [hc]
      have h3 : c - 48 < 10 := by omega
      simp only [h1, Bool.false_eq_true, if_false]
      simp [hc, h3]
    rw [List.foldlM_cons, e]
    show s.foldlM (NumText.step 10) (p.push (c - 48), true) = _
    by_cases hs : s = []
    · subst hs; simp
    · rw [ih (fun d hd => h d (List.mem_cons_of_mem _ hd)) _ _ hs]
      simp
theorem drop_none {p : Nat → Bool} : ∀ {l : List Nat}, (∀ c ∈ l, p c = false) → l.dropWhile p = l
  | [], _ => rfl
  | c :: r, h => by rw [List.dropWhile_cons, h c List.mem_cons_self]; rfl
theorem take_all {p : Nat → Bool} : ∀ {l : List Nat}, (∀ c ∈ l, p c = true) → l.takeWhile p = l
  | [], _ => rfl
  | c :: r, h => by rw [List.takeWhile_cons, h c List.mem_cons_self, take_all fun d hd => h d (List.mem_cons_of_mem _ hd)]; rfl
theorem worth_eq (s : Tx) (h : ∀ c ∈ s, 48 ≤ c ∧ c ≤ 57) : ∀ (n : Nat), (((s.map (· - 48)).foldl (fun acc d => acc * 10 + d) n : Nat) : Int) = List.foldl (fun (a : Int) (c : Nat) => a * 10 + ((c : Int) - 48)) (n : Int) s := by
  induction s with
  | nil => intro n; rfl
  | cons c s ih =>
    intro n
    have hc := h c List.mem_cons_self
    simp only [List.map_cons, List.foldl_cons]
    rw [ih (fun d hd => h d (List.mem_cons_of_mem _ hd))]
    congr 1
    omega
theorem int_read {s : Tx} {i : Int} (h : digitVal s = some i) : PySem.intText? (toS s) = some i ∧ (toS s).length ≤ 640 := by
  unfold digitVal at h
  split at h
  · rename_i hc
    cases h
    obtain ⟨h1, h2, h3⟩ := hc
    have hd : ∀ c ∈ s, 48 ≤ c ∧ c ≤ 57 := fun c hc => by
      have := List.all_eq_true.mp h3 c hc
      simpa using this
    have e1 : numTextOf (toS s) = s := by
      unfold numTextOf
      rw [if_pos]
      · rfl
      · simp only [toS, List.all_toArray, List.all_eq_true]
        intro c hc
        have := hd c hc
        simp; omega
    have e2 : numSeenOf (toS s) = s := by
      unfold numSeenOf
      rw [e1]
      exact take_all fun c hc => by have := hd c hc; simp; omega
    have bl : ∀ c ∈ s, NumText.blank c = false := fun c hc => by
      have := hd c hc
      unfold NumText.blank
      simp; omega
    have e3 : s.dropWhile NumText.blank = s := drop_none bl
    have e4 : NumText.sign s = (false, s) := by
      unfold NumText.sign
      cases s with
      | nil => rfl
      | cons c r =>
        have := hd c List.mem_cons_self
        split
        · rename_i e; injection e with e _; omega
        · rename_i e; injection e with e _; omega
        · rfl
    have e5 : NumText.core s = s := by
      unfold NumText.core
      rw [e3, e4]
      show (s.reverse.dropWhile NumText.blank).reverse = s
      rw [drop_none fun c hc => bl c (List.mem_reverse.mp hc), List.reverse_reverse]
    have hne : s ≠ [] := by intro e; subst e; simp at h1
    refine ⟨?_, by show (⟨s.toArray⟩ : Str).length ≤ 640; rw [len_arr]; omega⟩
    unfold PySem.intText?
    rw [e2, e1, if_pos (by simp), e5]
    have e6 : NumText.digits? 10 s = some (s.map (· - 48)).toArray := by
      unfold NumText.digits?
      rw [digits_read s hd _ _ hne]
      simp
    rw [e6]
    dsimp only
    rw [if_pos (by simp; omega), e3, e4]
    unfold NumText.worth
    rw [if_neg (show ¬ (false = true) from Bool.false_ne_true)]
    congr 1
    have := worth_eq s hd 0
    simpa using this
  · cases h

section
variable {K : PySem.W.Frag} {cl : String → Option Addr} {g : Mu} {I F H : Hp} {st : Sto}
theorem ints_of {ns : List Int} {vs : List V} (r : RepVs K g I (ns.map .int) vs) : vs = ns.map V.int := RepVs.of_map (f := MV.int) (f' := V.int) (fun _ _ h => h) r
theorem bls_of {ns : List Bool} {vs : List V} (r : RepVs K g I (ns.map .bl) vs) : vs = ns.map V.bl := RepVs.of_map (f := MV.bl) (f' := V.bl) (fun _ _ h => h) r
theorem strs_of {ns : List Tx} {vs : List V} (r : RepVs K g I (ns.map .str) vs) : vs = (ns.map toS).map V.str := by
  rw [RepVs.of_map (f := MV.str) (f' := fun t => V.str (toS t)) (fun _ _ h => h) r, List.map_map]; rfl
/-- a new dict -/
theorem new_dict {Q : Post} {kvs : List (MV × MV)} {ws : List (Key × V)} (S : Sim K cl g I F H st) (r : RepKV K g I kvs ws) (q : Q (.ref st.length) (st ++ [.dic false kvs])) {p : Addr} (hn : H p = none) : QV K cl g I F Q (.ref p) (upd H p (.dK ws)) := by
  refine ⟨gAdd g st.length p, I, .ref st.length, _, gAdd_le S.no, LeH.refl _, S.new (mo := .dic false kvs) hn ⟨ws, upd_same, r.mono (gAdd_le S.no) (LeH.refl _)⟩, ⟨p, ?_, rfl⟩, q⟩
  unfold gAdd; rw [if_pos rfl]
/-- a list's or a tuple's reading -/
theorem dic_rd {lk : Bool} {kvs : List (MV × MV)} {a : Nat} {p : Addr} (S : Sim K cl g I F H st) (hp : g a = some p) (hs : st[a]? = some (.dic lk kvs)) : ∃ ws, Rd H p (.dK ws) ∧ RepKV K g I kvs ws := by
  cases lk with
  | false => obtain ⟨ws, e1, r1⟩ := S.at_ hp hs; exact ⟨ws, .inl e1, r1⟩
  | true => obtain ⟨o, ws, e1, r1, _⟩ := S.at_ hp hs; exact ⟨ws, .inr ⟨o, e1⟩, r1⟩
theorem dict_from {X : Cx} {H : Hp} : ∀ {xs : List MV} {vs : List V} {acc kvs : List (MV × MV)} {wcc : List (Key × V)}, dictOf xs acc = some kvs → RepVs X.K g I xs vs → RepKV X.K g I acc wcc → LeH I H →
    ∃ ps ws, vs = ps.map V.ref ∧ Paired (fun p (kv : Key × V) => SqT X.K H p [kV kv.1, kv.2]) ps ws ∧ RepKV X.K g I kvs (mergeK wcc ws)
  | [], vs, acc, kvs, wcc, h, r, ra, hI => by
    simp only [dictOf] at h
    cases h
    have r : vs = [] := r
    subst r
    exact ⟨[], [], rfl, .nil, ra⟩
  | x :: xs, vs, acc, kvs, wcc, h, ⟨v, r, h1, h2, h3⟩, ra, hI => by
    unfold dictOf at h
    split at h
    · rename_i e; cases e
    · rename_i k y r' e
      injection e with e e'
      subst e e'
      split at h
      · rename_i hk
        obtain ⟨p, us, rfl, h4, h5⟩ := h2
        obtain ⟨a, b, rfl, h6, h7⟩ := h5.two
        obtain ⟨k', ek, rfl⟩ := keyV_of hk h6
        obtain ⟨ps, ws, e1, e2, e3⟩ := dict_from (X := X) h h3 (ra.put ek h7) hI
        refine ⟨p :: ps, (k', b) :: ws, by rw [h1, e1]; rfl, .cons (hI.tup h4) e2, ?_⟩
        unfold mergeK at e3 ⊢
        rw [List.foldl_cons]
        exact e3
      · cases h
    · cases h
theorem seqL_of {X : Cx} {xs : List MV} {v : V} (S : Sim X.K cl g I F H st) {x : MV} (rx : RepV X.K g I x v) (h : seqOf st x = some xs) : ∃ p vs, v = .ref p ∧ (SqL X.K H p vs ∨ SqT X.K H p vs) ∧ RepVs X.K g I xs vs := by
  cases x with
  | non => cases h
  | bl b => cases h
  | int i => cases h
  | str s => cases h
  | tup ys =>
    cases h
    obtain ⟨p, vs, rfl, h1, h2⟩ := rx
    exact ⟨p, vs, rfl, .inr (S.ih.tup h1), h2⟩
  | lsv ys =>
    cases h
    obtain ⟨p, vs, rfl, h1, h2⟩ := rx
    exact ⟨p, vs, rfl, .inl (S.ih.lst h1), h2⟩
  | ref a =>
    obtain ⟨p, hp, rfl⟩ := rx
    simp only [seqOf] at h
    split at h
    · rename_i ys hs
      cases h
      obtain ⟨vs, e1, r1⟩ := S.at_ hp hs
      exact ⟨p, vs, rfl, .inl (SqL.of e1), r1⟩
    · cases h
mutual
theorem shw_py : ∀ d : PD, d.shw = true → (pyD d).showable = true
  | .non, _ => by simp [pyD, PyData.showable]
  | .bl _, _ => by simp [pyD, PyData.showable]
  | .str _, _ => by simp [pyD, PyData.showable]
  | .int i, h => by
    simp only [pyD, PyData.showable]
    simp only [PD.shw, decide_eq_true_eq] at h
    exact decide_eq_true (Nat.lt_trans (PySem.Flt.log2_lt_of (by decide) h) (by decide))
  | .lst xs, h => by simp only [pyD, PyData.showable]; exact shw_pys xs (by simpa [PD.shw] using h)
  | .tup xs, h => by simp only [pyD, PyData.showable]; exact shw_pys xs (by simpa [PD.shw] using h)
  | .dic xs, h => by simp only [pyD, PyData.showable]; exact shw_pyk xs (by simpa [PD.shw] using h)
theorem shw_pys : ∀ d : List PD, PD.shwAll d = true → PyData.showableAll (pyDs d) = true
  | [], _ => by simp [pyDs, PyData.showableAll]
  | x :: xs, h => by
    simp only [PD.shwAll, Bool.and_eq_true] at h
    simp only [pyDs, PyData.showableAll, Bool.and_eq_true]
    exact ⟨shw_py x h.1, shw_pys xs h.2⟩
theorem shw_pyk : ∀ d : List (PD × PD), PD.shwKv d = true → PyData.showableKv (pyDk d) = true
  | [], _ => by simp [pyDk, PyData.showableKv]
  | (k, v) :: xs, h => by
    simp only [PD.shwKv, Bool.and_eq_true] at h
    simp only [pyDk, PyData.showableKv, Bool.and_eq_true]
    exact ⟨⟨shw_py k h.1.1, shw_py v h.1.2⟩, shw_pyk xs h.2⟩
end
mutual
theorem nodic_py : ∀ d : PD, d.nodic = true → (pyD d).hasDict = false
  | .non, _ => by simp [pyD, PyData.hasDict]
  | .bl _, _ => by simp [pyD, PyData.hasDict]
  | .str _, _ => by simp [pyD, PyData.hasDict]
  | .int i, h => by simp [pyD, PyData.hasDict]
  | .lst xs, h => by simp only [pyD, PyData.hasDict]; exact nodic_pys xs (by simpa [PD.nodic] using h)
  | .tup xs, h => by simp only [pyD, PyData.hasDict]; exact nodic_pys xs (by simpa [PD.nodic] using h)
  | .dic xs, h => by simp [PD.nodic] at h
theorem nodic_pys : ∀ d : List PD, PD.nodicAll d = true → PyData.hasDictAll (pyDs d) = false
  | [], _ => by simp [pyDs, PyData.hasDictAll]
  | x :: xs, h => by
    simp only [PD.nodicAll, Bool.and_eq_true] at h
    simp only [pyDs, PyData.hasDictAll, Bool.or_eq_false_iff]
    exact ⟨nodic_py x h.1, nodic_pys xs h.2⟩
end
theorem repr_ok {X : Cx} (hg : X.A.guards = some []) (hu : X.A.units + 65 < cLine) {x : MV} {v : V} {d : PD} {Q : Post} (S : Sim X.K cl g I F H st) (rx : RepV X.K g I x v) (h : toPD 30 st x = some d) (h1 : d.shw = true) (h2 : d.nodic = true) (h3 : (rpD d).length ≤ big)
    (q : Q (.str (rpD d)) st) : cSem X (.builtin "repr") [v] H (QV X.K cl g I F Q) := by
  intro pins s σ us J r
  obtain ⟨u, rfl, ru⟩ := r.one
  have hz : (pyD d).shown.length ≤ sizeLine := by rw [← len_rp, ← big_eq]; exact h3
  have D := dp_of S 30 x d v h2 h rx
  have dl := depth_le 30 st x d h2 h
  have fin : ∀ {s' : Shared} {t : Tok}, Inv X pins σ H s' → EP X pins σ (QV X.K cl g I F Q) (.str (pyD d).shown t) s' := fun {s' t} J' => ⟨.str (pyD d).shown, H, J', ⟨_, rfl⟩, by rw [← toS_rp]; exact QV.str S q⟩
  obtain ⟨as, rd⟩ := D.reads J (pyD d) v u ru
  cases d with
  | non => cases D; cases ru; exact PySem.P.repr_of_none (fin (J.tok _))
  | bl b => cases D; cases ru; exact PySem.P.repr_of_bool (fin (J.tok _))
  | int i =>
    cases D
    obtain ⟨t, rfl⟩ := ru
    refine PySem.P.repr_of_int ?_ (fin (J.tok _))
    simp only [PD.shw, decide_eq_true_eq] at h1
    exact Nat.lt_trans (PySem.Flt.log2_lt_of (by decide) h1) (by decide)
  | str z =>
    cases D
    obtain ⟨t, rfl⟩ := ru
    exact PySem.P.repr_of_str (fin (J.tok _)) hz
  | lst xs =>
    obtain ⟨a, rfl⟩ : ∃ a, u = .ref a := by cases rd; exact ⟨_, rfl⟩
    refine repr_of_reads' (h₀ := s.heap) rd (shw_py _ h1) (fun e => by rw [nodic_py _ h2] at e; cases e) hg (by omega) (fun _ _ e => e) (fun h' t tk hk => fin (J.kept (t' := tk) hk)) hz
  | tup xs =>
    obtain ⟨a, rfl⟩ : ∃ a, u = .ref a := by cases rd; exact ⟨_, rfl⟩
    refine repr_of_reads' (h₀ := s.heap) rd (shw_py _ h1) (fun e => by rw [nodic_py _ h2] at e; cases e) hg (by omega) (fun _ _ e => e) (fun h' t tk hk => fin (J.kept (t' := tk) hk)) hz
  | dic xs => simp [PD.nodic] at h2
theorem uniq_max {ns : List Int} {m k : Int} (h1 : m ∈ ns) (h2 : ∀ y ∈ ns, y ≤ m) (h3 : k ∈ ns) (h4 : ∀ y ∈ ns, y ≤ k) : k = m := Int.le_antisymm (h2 _ h3) (h4 _ h1)
theorem uniq_min {ns : List Int} {m k : Int} (h1 : m ∈ ns) (h2 : ∀ y ∈ ns, m ≤ y) (h3 : k ∈ ns) (h4 : ∀ y ∈ ns, k ≤ y) : k = m := Int.le_antisymm (h4 _ h1) (h2 _ h3)
theorem rep_tupOf {xs : List MV} {p : Addr} {vs : List V} (h1 : SqT K I p vs) (h2 : RepVs K g I xs vs) : RepV K g I (.tup xs) (.ref p) := ⟨p, vs, rfl, h1, h2⟩
section
open PySem.Spec PyProof.Rows PySem.AutoSeq1
variable {prog : Program} {w : World} {A : Around} {E : Value → Shared → Prop} {s : Shared} {T : String} {r d : Addr} {n : Nat} {P : Nat → Value → Prop} {OK : Heap → Prop}
theorem code_tupD {Q₁ : Value → Shared → Prop} (K : PySem.W.KdlSrc prog w T r d n P OK) (hTT : T = "dict") (hh : A.handled = none) (hok : OK s.heap) (hn : n ≤ sizeLine)
    (h : ∀ (h' : Heap) (tk : Nat) (acc : Array Value), (∀ b o, s.heap.get? b = some o → h'.get? b = some o) → ItemsOf P acc n →
      Q₁ (.ref h'.objs.size) { s with heap := h'.push { cls := .type "tuple", data := .seq acc }, toks := tk }) :
    codeAny (model prog w) A (.call (.builtin "tuple.__new__") ⟨[.type "tuple", .ref r], []⟩) (wants Q₁ E) s := by
  subst hTT
  refine codeAny_of_tree ?_
  show wpAny _ A.in1 (do checkBuiltinCall "tuple.__new__" ⟨[.type "tuple", .ref r], []⟩; again (.builtin "tuple.__new__" ⟨[.type "tuple", .ref r], []⟩)) _ _ s
  refine wpAny_bind (wpAny_of_eq (F.newCall_tuple_1 _) (wpAny_pure ⟨plainId_quiet F.plain_tuple_new _, codeAny_builtin F.entry_tuple_new ?_⟩))
  rw [Around.under_plainId F.plain_tuple_new _]
  have hsub := sub_tuple_self
  have hinit := init_tuple_lookup
  have hmh := madeHere_tuple
  have hTI : s.TypeIs (.ref r) "dict" := K.type _ hok
  have hh1 : A.in1.handled = none := hh
  wp_walk using wpAny_typeOf hTI, PySem.W.kdu_collect (A := A.in1) K hh1 hok hn
  intro h' tk acc hk hacc
  show wpAny _ _ (Builtin.Tuple.tupleExact acc.toList.toArray >>= fun v => ret v) _ _ _
  unfold Builtin.Tuple.tupleExact
  refine wpAny_bind (wpAny_newObj_type ?_ (by show acc.toList.toArray.size ≤ sizeLine; simp only [Array.toArray_toList]; rw [hacc.1]; exact hn))
  refine wpAny_pure ?_
  have e : acc.toList.toArray = acc := by simp
  rw [e]
  exact h h' tk acc hk hacc
theorem call_tupDsrc {Q : Value → Shared → Prop} (K : PySem.W.KdlSrc prog w T r d n P OK) (hTT : T = "dict") (hh : A.handled = none) (hok : OK s.heap) (hn : n ≤ sizeLine)
    (hQ : ∀ (h' : Heap) (tk : Nat) (acc : Array Value), (∀ b o, s.heap.get? b = some o → h'.get? b = some o) → ItemsOf P acc n →
      Q (.ref h'.objs.size) { s with heap := h'.push { cls := .type "tuple", data := .seq acc }, toks := tk }) :
    wpAny (model prog w) A (call (.type "tuple") [.ref r]) Q E s := by
  refine callType_codes (Q₁ := fun obj s₁ => s₁.TypeIs obj "tuple" ∧ Q obj s₁) F.called_tuple (F.typeCall_tuple_1 _) F.entry_object_init
    (code_tupD (A := A.in1) K hTT hh hok hn fun h' tk acc hk hacc => ⟨⟨_, Heap.get?_push_size _ rfl, rfl⟩, hQ h' tk acc hk hacc⟩) fun obj s₁ h₁ => ?_
  exact ⟨h₁.1, F.args_object_init_2 obj _, object_init_meets F.called_tuple.init.lookup F.called_tuple.made (by decide) prog w A.in1 _ s₁ ⟨h₁.1, rfl, h₁.2⟩⟩
end
theorem call_tupD {X : Cx} (hc : X.calm = true) : CallR X (.type "tuple") (fun xs H Q => ∃ (a : Addr) (kvs : List (Key × V)), xs = [.ref a] ∧ Rd H a (.dK kvs) ∧ ∀ p, H p = none → Q (.ref p) (upd H p (.tup (kvs.map fun kv => kV kv.1)))) := by
  intro pins s σ H xs us Q I r q
  obtain ⟨a, kvs, ex, hd, q⟩ := q
  subst ex
  obtain ⟨u, eu, rx⟩ := vals1 r
  subst eu
  cases rx
  obtain ⟨z, lo, vs, rel, dd⟩ := dk_rd I.hok hd
  obtain ⟨ep, hat⟩ := dd.dictAt
  have ek : (kvs.map fun kv => kV kv.1) = vs.map fun p => kV p.1 := by
    have e := congrArg (List.map kV) rel.keys
    rw [List.map_map, List.map_map] at e
    exact e
  refine call_tupDsrc (PySem.W.kdl_dict (knd := mixKind X.prog X.w) (kvs := vs) (ep := ep) lo) rfl (I.ok.hd hc) hat (by rw [← rel.length]; exact z) fun h' tk acc hk hacc => ?_
  have hv : Vals (vs.map fun p => kV p.1) acc.toList := keys_at (by rw [Array.length_toList]; exact hacc.1) fun j v e => hacc.2 j v (by rw [← Array.getElem?_toList]; exact e)
  have I2 : Inv X pins σ H { s with heap := h', toks := tk } := I.kept hk
  refine ⟨.ref h'.objs.size, upd H h'.objs.size (.tup (kvs.map fun kv => kV kv.1)), I2.laid (t' := tk) (fun b o e => Heap.get?_push_of_some _ e) (Nat.le_refl _)
    (show ObjOk X.prog X.w _ _ _ (.tup (kvs.map fun kv => kV kv.1)) from ⟨by rw [List.length_map]; exact z, acc.toList, by rw [ek]; exact hv, by rw [Array.toArray_toList]; exact PyProof.Rows.IsTup.new _ _⟩), rfl, q _ (I2.hok.fresh (Nat.le_refl _))⟩

theorem blt_ok {X : Cx} (hc : X.calm = true) (hg : X.A.guards = some []) (hu : X.A.units + 65 < cLine) (b : Blt) {xs : List MV} {vs : List V} {Q : Post} (S : Sim X.K cl g I F H st) (rx : RepVs X.K g I xs vs) (h : opBlt rpD b xs st Q) :
    cSem X (bval b) vs H (QV X.K cl g I F Q) := by
  unfold opBlt at h
  split at h
  · -- len str
    obtain ⟨v, rfl, r⟩ := rx.one
    cases r
    obtain ⟨hl, q⟩ := h
    refine cSem_of call_len_str ⟨_, rfl, by rw [len_arr, ← big_eq]; exact hl, ?_⟩
    rw [len_arr]
    exact QV.int S q
  · -- len tup
    obtain ⟨v, rfl, r⟩ := rx.one
    obtain ⟨p, us, rfl, h1, h2⟩ := r
    refine cSem_of call_len_seq ⟨p, us, rfl, .inr (S.ih.tup h1), ?_⟩
    rw [h2.len]
    exact QV.int S h
  · obtain ⟨v, rfl, r⟩ := rx.one
    obtain ⟨p, us, rfl, h1, h2⟩ := r
    refine cSem_of call_len_seq ⟨p, us, rfl, .inl (S.ih.lst h1), ?_⟩
    rw [h2.len]
    exact QV.int S h
  · -- len ref
    obtain ⟨v, rfl, r⟩ := rx.one
    obtain ⟨p, hp, rfl⟩ := r
    split at h
    · rename_i ys hs
      obtain ⟨us, e1, r1⟩ := S.at_ hp hs
      refine cSem_of call_len_seq ⟨p, us, rfl, .inl (SqL.of e1), ?_⟩
      rw [r1.len]
      exact QV.int S h
    · rename_i kvs hs
      obtain ⟨ws, e1, r1⟩ := S.at_ hp hs
      refine cSem_of call_lenD ⟨p, ws, rfl, e1, ?_⟩
      rw [r1.len]
      exact QV.int S h
    · exact h.elim
  · obtain ⟨v, rfl, r⟩ := rx.one
    cases r
    exact cSem_of call_abs ⟨_, rfl, QV.int S h⟩
  · obtain ⟨v, rfl, r⟩ := rx.one
    cases r
    exact cSem_of call_int1 (.inl ⟨_, rfl, QV.int S h⟩)
  · obtain ⟨v, rfl, r⟩ := rx.one
    cases r
    exact cSem_of call_int1 (.inr ⟨_, rfl, QV.int S h⟩)
  · obtain ⟨v, rfl, r⟩ := rx.one
    cases r
    obtain ⟨i, hi, q⟩ := h
    obtain ⟨h1, h2⟩ := int_read hi
    exact cSem_of call_int_str ⟨_, i, rfl, h1, h2, QV.int S q⟩
  · -- str
    obtain ⟨v, rfl, r⟩ := rx.one
    cases r
    obtain ⟨hi, q⟩ := h
    refine cSem_of call_str_int ⟨_, rfl, Nat.lt_trans (PySem.Flt.log2_lt_of (by decide) hi) (by decide), ?_⟩
    show QV X.K cl g I F Q (.str (Str.ofString _)) H
    rw [int_toS]
    exact QV.str S q
  · obtain ⟨v, rfl, r⟩ := rx.one
    obtain ⟨p, us, rfl, h1, h2⟩ := r
    exact cSem_of call_list_of ⟨p, us, rfl, .inr (S.ih.tup h1), fun l hl => new_list S h2 h hl⟩
  · obtain ⟨v, rfl, r⟩ := rx.one
    obtain ⟨p, us, rfl, h1, h2⟩ := r
    exact cSem_of call_list_of ⟨p, us, rfl, .inl (S.ih.lst h1), fun l hl => new_list S h2 h hl⟩
  · obtain ⟨v, rfl, r⟩ := rx.one
    obtain ⟨p, hp, rfl⟩ := r
    split at h
    · rename_i ys hs
      obtain ⟨us, e1, r1⟩ := S.at_ hp hs
      exact cSem_of call_list_of ⟨p, us, rfl, .inl (SqL.of e1), fun l hl => new_list S r1 h hl⟩
    · rename_i lk kvs hs
      obtain ⟨ws, e1, r1⟩ := dic_rd S hp hs
      exact cSem_of (call_listD hc) ⟨p, ws, rfl, e1, fun l hl => new_list S r1.keys h hl⟩
    · exact h.elim
  · obtain ⟨v, rfl, r⟩ := rx.one
    obtain ⟨p, us, rfl, h1, h2⟩ := r
    exact cSem_of call_tuple_of ⟨p, us, rfl, .inr ⟨S.ih.tup h1, QV.tup S h1 h2 h⟩⟩
  · obtain ⟨v, rfl, r⟩ := rx.one
    obtain ⟨p, us, rfl, h1, h2⟩ := r
    exact cSem_of call_tuple_of ⟨p, us, rfl, .inl ⟨S.ih.lst h1, fun l hl => new_tup S h2 h hl⟩⟩
  · obtain ⟨v, rfl, r⟩ := rx.one
    obtain ⟨p, hp, rfl⟩ := r
    split at h
    · rename_i ys hs
      obtain ⟨us, e1, r1⟩ := S.at_ hp hs
      exact cSem_of call_tuple_of ⟨p, us, rfl, .inl ⟨SqL.of e1, fun l hl => new_tup S r1 h hl⟩⟩
    · rename_i lk kvs hs
      obtain ⟨ws, e1, r1⟩ := dic_rd S hp hs
      exact cSem_of (call_tupD hc) ⟨p, ws, rfl, e1, fun l hl => new_tup S r1.keys h hl⟩
    · exact h.elim
  · obtain ⟨v, w, rfl, r, r'⟩ := rx.two
    cases r; cases r'
    exact cSem_of (call_max2 hc) ⟨_, _, rfl, QV.int S h⟩
  · obtain ⟨v, w, rfl, r, r'⟩ := rx.two
    cases r; cases r'
    exact cSem_of (call_min2 hc) ⟨_, _, rfl, QV.int S h⟩
  · obtain ⟨v, rfl, r⟩ := rx.one
    obtain ⟨p, hp, rfl⟩ := r
    obtain ⟨ns, m, hs, h1, h2, q⟩ := h
    obtain ⟨us, e1, r1⟩ := S.at_ hp hs
    rw [ints_of r1] at e1
    exact cSem_of (cr_max hc) ⟨p, ns, rfl, SqL.of e1, List.length_pos_of_mem h1, fun k h3 h4 => by rw [uniq_max h1 h2 h3 h4]; exact QV.int S q⟩
  · obtain ⟨v, rfl, r⟩ := rx.one
    obtain ⟨p, hp, rfl⟩ := r
    obtain ⟨ns, m, hs, h1, h2, q⟩ := h
    obtain ⟨us, e1, r1⟩ := S.at_ hp hs
    rw [ints_of r1] at e1
    exact cSem_of (cr_min hc) ⟨p, ns, rfl, SqL.of e1, List.length_pos_of_mem h1, fun k h3 h4 => by rw [uniq_min h1 h2 h3 h4]; exact QV.int S q⟩
  · obtain ⟨v, rfl, r⟩ := rx.one
    obtain ⟨p, hp, rfl⟩ := r
    obtain ⟨ns, hs, q⟩ := h
    obtain ⟨us, e1, r1⟩ := S.at_ hp hs
    rw [ints_of r1] at e1
    exact cSem_of (cr_sum hc) ⟨p, ns, rfl, SqL.of e1, QV.int S q⟩
  · obtain ⟨v, rfl, r⟩ := rx.one
    obtain ⟨p, hp, rfl⟩ := r
    obtain ⟨ns, hs, q⟩ := h
    obtain ⟨us, e1, r1⟩ := S.at_ hp hs
    rw [bls_of r1] at e1
    exact cSem_of (cr_all hc) ⟨p, ns, rfl, SqL.of e1, QV.bl S q⟩
  · obtain ⟨v, rfl, r⟩ := rx.one
    obtain ⟨p, hp, rfl⟩ := r
    obtain ⟨ns, hs, q⟩ := h
    obtain ⟨us, e1, r1⟩ := S.at_ hp hs
    rw [bls_of r1] at e1
    exact cSem_of (cr_any hc) ⟨p, ns, rfl, SqL.of e1, QV.bl S q⟩
  · obtain ⟨v, rfl, r⟩ := rx.one
    obtain ⟨d, h1, h2, h3, h4, q⟩ := h
    exact repr_ok hg hu S r h1 h2 h3 h4 q
  · obtain ⟨v, rfl, r⟩ := rx.one
    obtain ⟨p, hp, rfl⟩ := r
    split at h
    · rename_i ys hs
      obtain ⟨kvs, hd, q⟩ := h
      obtain ⟨us, e1, r1⟩ := S.at_ hp hs
      obtain ⟨ps, ws, rfl, h2, h3⟩ := dict_from (X := X) hd r1 .nil S.ih
      exact cSem_of (call_dictP hc) ⟨p, ps, ws, rfl, SqL.of e1, h2, fun l hl => new_dict S h3 q hl⟩
    · rename_i lk kvs hs
      obtain ⟨ws, e1, r1⟩ := dic_rd S hp hs
      exact cSem_of call_dictD ⟨p, ws, rfl, e1, fun l hl => new_dict S r1 h hl⟩
    · exact h.elim
  · exact h.elim
end
end Snd
-- S7
namespace Snd
open PySem L2 Mi

/-! ### runs -/
def RunE (X : Cx) (e : Expr) : TE := fun σ H Q => ∀ (pins : List (Addr × Obj)) (s : Shared), Inv X pins σ H s → wpAny (model X.prog X.w) X.A (eval e X.env) (EP X pins σ Q) X.xe s
def RunT (X : Cx) (e : Expr) : TT := fun σ H Q => ∀ (pins : List (Addr × Obj)) (s : Shared), Inv X pins σ H s → wpAny (model X.prog X.w) X.A (isTrue e X.env (eval e X.env)) (TP X pins σ Q) X.xe s
def RunA (X : Cx) (es : List Expr) : TA := fun σ H Q => ∀ (pos : Pos) (pins : List (Addr × Obj)) (s : Shared), Inv X pins σ H s → wpAny (model X.prog X.w) X.A (spliced (backTo pos (starEach es X.env))) (AP X pins σ Q) X.xe s
def RunS (X : Cx) (st : Stmt) : TS := fun D σ H => ∀ (pins : List (Addr × Obj)) (s : Shared), Inv X pins σ H s → wpAny (model X.prog X.w) X.A (exec st X.env) (SP X pins D) X.xe s
def RunSs (X : Cx) (st : List Stmt) : TS := fun D σ H => ∀ (pins : List (Addr × Obj)) (s : Shared), Inv X pins σ H s → wpAny (model X.prog X.w) X.A (execs st X.env) (SP X pins D) X.xe s
section
variable {X : Cx} {e : Expr} {es : List Expr} {σ : HS} {H : Hp}
theorem rE : PE X e (RunE X e) := ⟨fun pins s _ _ _ I h => h pins s I⟩
theorem rT : PT X e (RunT X e) := ⟨fun pins s _ _ _ I h => h pins s I⟩
theorem rA : PA X es (RunA X es) := ⟨fun pos pins s _ _ _ I h => h pos pins s I⟩
theorem rS {st : Stmt} : PS X st (RunS X st) := ⟨fun pins s _ _ _ I h => h pins s I⟩
theorem rSs {st : List Stmt} : PSs X st (RunSs X st) := ⟨fun pins s _ _ _ I h => h pins s I⟩
theorem run_E {t : TE} (h : PE X e t) {Q : VK} (q : t σ H Q) : RunE X e σ H Q := fun pins s I => h.run pins s σ H Q I q
theorem run_T {t : TT} (h : PT X e t) {Q : Bool → Hp → Prop} (q : t σ H Q) : RunT X e σ H Q := fun pins s I => h.run pins s σ H Q I q
theorem run_A {t : TA} (h : PA X es t) {Q : List V → Hp → Prop} (q : t σ H Q) : RunA X es σ H Q := fun pos pins s I => h.run pos pins s σ H Q I q
theorem run_S {st : Stmt} {t : TS} (h : PS X st t) {D : L2.Ends} (q : t D σ H) : RunS X st D σ H := fun pins s I => h.run pins s σ H D I q
theorem run_Ss {st : List Stmt} {t : TS} (h : PSs X st t) {D : L2.Ends} (q : t D σ H) : RunSs X st D σ H := fun pins s I => h.run pins s σ H D I q
theorem RunE.mono {Q Q' : VK} (h : RunE X e σ H Q) (hq : ∀ v H', Q v H' → Q' v H') : RunE X e σ H Q' := fun pins s I => thn (h pins s I) fun _ _ ⟨v, H', a, b, c⟩ => ⟨v, H', a, b, hq _ _ c⟩
theorem RunT.mono {Q Q' : Bool → Hp → Prop} (h : RunT X e σ H Q) (hq : ∀ v H', Q v H' → Q' v H') : RunT X e σ H Q' := fun pins s I => thn (h pins s I) fun _ _ ⟨H', a, c⟩ => ⟨H', a, hq _ _ c⟩
theorem RunA.mono {Q Q' : List V → Hp → Prop} (h : RunA X es σ H Q) (hq : ∀ v H', Q v H' → Q' v H') : RunA X es σ H Q' := fun pos pins s I => thn (h pos pins s I) fun _ _ ⟨v, H', a, b, c⟩ => ⟨v, H', a, b, hq _ _ c⟩
end

/-! ### the text matched -/
def boolOpIs : BoolOp → BoolOp → Bool
  | .And, .And => true
  | .Or, .Or => true
  | _, _ => false
def isVis (sc : Scope) (x : Str) : Bool := match sc.names.lookup x with
  | some .local => true
  | some .cell => true
  | some .free => true
  | _ => false
def isLoc (sc : Scope) (fn : Str → Bool) (x : Str) : Bool := match sc.names.lookup x with
  | some .local => true
  | some .cell => fn x
  | _ => false
theorem isLoc_ok {sc : Scope} {fn : Str → Bool} {x : Str} (h : isLoc sc fn x = true) : L2.Loc sc x ∧ (fn x = true ∨ sc.names.lookup x = some .local) := by
  unfold isLoc at h
  unfold L2.Loc
  split at h
  · rename_i e; exact ⟨.inl e, .inr e⟩
  · rename_i e; exact ⟨.inr e, .inl h⟩
  · exact absurd h Bool.false_ne_true
def isGl (sc : Scope) (x : Str) : Bool := match sc.names.lookup x with
  | some .globalImplicit => true
  | _ => false
def constIs : Const → MV → Bool
  | .none, .non => true
  | .bool a, .bl b => a == b
  | .int i, .int j => i == j
  | .str s, .str t => s.cps.toList == t
  | _, _ => false
def scEq : MV → MV → Bool
  | .non, .non => true
  | .bl a, .bl b => a == b
  | .int i, .int j => i == j
  | .str s, .str t => s == t
  | _, _ => false
def okBase : Expr → Bool
  | .Call (.Name id _) [] [] _ => id != "super"
  | _ => true
def noStar : List Expr → Bool
  | [] => true
  | .Starred _ _ :: _ => false
  | _ :: r => noStar r
def okIx : Expr → Bool
  | .Slice _ _ _ _ => false
  | _ => true
def okCmp (o : COp) (e : Expr) : Bool := match o, e with
  | .inn, .Set _ _ _ => false
  | .nin, .Set _ _ _ => false
  | _, _ => true
def copIs : COp → CmpOp → Bool
  | .eq, .Eq => true | .ne, .NotEq => true | .lt, .Lt => true | .le, .LtE => true | .gt, .Gt => true | .ge, .GtE => true | .isN, .Is => true | .notN, .IsNot => true | .inn, .In => true | .nin, .NotIn => true
  | _, _ => false
def bopIs : BOp → Operator → Bool
  | .add, .Add => true | .sub, .Sub => true | .mul, .Mult => true | .fdiv, .FloorDiv => true | .mod, .Mod => true | .pow, .Pow => true
  | _, _ => false
theorem copIs_eq {o : COp} {p : CmpOp} (h : copIs o p = true) : p = cop o := by cases o <;> cases p <;> first | rfl | exact absurd h Bool.false_ne_true
theorem bopIs_eq {o : BOp} {p : Operator} (h : bopIs o p = true) : p = bop o := by cases o <;> cases p <;> first | rfl | exact absurd h Bool.false_ne_true
def bname : Blt → String
  | .len => "len" | .abs => "abs" | .int => "int" | .str => "str" | .list => "list" | .tuple => "tuple" | .max => "max" | .min => "min"
  | .sum => "sum" | .all => "all" | .any => "any" | .sorted => "sorted" | .repr => "repr" | .dict => "dict" | .set => "set" | .range => "range"
def mname : BMt → String
  | .append => "append" | .extend => "extend" | .pop => "pop" | .index => "index" | .split => "split" | .join => "join" | .get => "get"
def tyName : ITy → String
  | .int => "int" | .bool => "bool" | .str => "str" | .tuple => "tuple" | .list => "list" | .dict => "dict" | .own c => c

/-- what the program's top names -/
structure MT where
  gl : List (Str × MV)
  fns : List String
  cls : List String

def tgMs (N : List Str) (sc : Scope) (fn : Str → Bool) : List Nat → List Expr → Bool
  | [], [] => true
  | i :: r, .Name x _ :: es => decide (N[i]? = some x) && isLoc sc fn x && tgMs N sc fn r es
  | _, _ => false
def tgM (N : List Str) (sc : Scope) (fn : Str → Bool) : ITg → Expr → Bool
  | .name i, .Name x _ => decide (N[i]? = some x) && isLoc sc fn x
  | .tup ns, .Tuple es _ _ => tgMs N sc fn ns es
  | _, _ => false
theorem isVis_ok {sc : Scope} {x : Str} (h : isVis sc x = true) : Vis sc x := by
  unfold isVis at h
  unfold Vis
  split at h <;> first | (rename_i e; simp [e]; done) | exact absurd h Bool.false_ne_true

end Snd
-- S8
namespace Snd
open PySem L2 Mi

abbrev NoX : Xp := fun _ _ _ => False
/-- the program: its tables, its text's facts -/
structure Tab where
  G : MT
  P : Prog
  prog : Program
  w : World
  K : PySem.W.Frag
  mg : Str → Option Value
  base : Heap
  cl : String → Option Addr
  ad : String → Option Addr

def EnvRel (K : PySem.W.Frag) (g : Mu) (I : Hp) (env : Mi.Env) (σ : HS) : Prop := env.length = σ.length ∧ ∀ (i : Nat) (x : MV), env[i]? = some (some x) → ∃ v : V, σ[i]? = some (some v) ∧ RepV K g I x v
theorem EnvRel.mono {K : PySem.W.Frag} {g g' : Mu} {I I' : Hp} {env : Mi.Env} {σ : HS} (h : EnvRel K g I env σ) (hg : LeM g g') (hI : LeH I I') : EnvRel K g' I' env σ :=
  ⟨h.1, fun i x e => let ⟨v, a, b⟩ := h.2 i x e; ⟨v, a, b.mono hg hI⟩⟩
theorem EnvRel.set {K : PySem.W.Frag} {g : Mu} {I : Hp} {env : Mi.Env} {σ : HS} (h : EnvRel K g I env σ) (i : Nat) {x : MV} {v : V} (r : RepV K g I x v) : EnvRel K g I (env.set i (some x)) (σ.set i (some v)) := by
  refine ⟨by simp [h.1], fun j y e => ?_⟩
  by_cases c : j = i
  · subst c
    have hl : j < env.length := by have := (List.getElem?_eq_some_iff.mp e).1; simpa using this
    rw [List.getElem?_set_self hl] at e
    cases e
    exact ⟨v, List.getElem?_set_self (by rw [← h.1]; exact hl), r⟩
  · rw [List.getElem?_set_ne (Ne.symm c)] at e
    obtain ⟨w, a, b⟩ := h.2 j y e
    exact ⟨w, by rw [List.getElem?_set_ne (Ne.symm c)]; exact a, b⟩
theorem EnvRel.unset {K : PySem.W.Frag} {g : Mu} {I : Hp} {env : Mi.Env} {σ : HS} (h : EnvRel K g I env σ) (i : Nat) : EnvRel K g I (env.set i none) (σ.set i none) := by
  refine ⟨by simp [h.1], fun j y e => ?_⟩
  by_cases c : j = i
  · subst c
    have hl : j < env.length := by have := (List.getElem?_eq_some_iff.mp e).1; simpa using this
    rw [List.getElem?_set_self hl] at e
    cases e
  · rw [List.getElem?_set_ne (Ne.symm c)] at e
    obtain ⟨w, a, b⟩ := h.2 j y e
    exact ⟨w, by rw [List.getElem?_set_ne (Ne.symm c)]; exact a, b⟩
theorem EnvRel.wipe {K : PySem.W.Frag} {g : Mu} {I : Hp} {env : Mi.Env} {σ : HS} (h : EnvRel K g I env σ) : ∀ vs : List Nat, EnvRel K g I (wipeE env vs) (wipe σ vs)
  | [] => h
  | v :: vs => by
    unfold wipeE L2.wipe
    exact (EnvRel.wipe h vs).unset v

/-- what a call of q does: level L of frames -/
def FnC (T : Tab) (Φ : Phi) (L : Nat) (q : String) (a : Addr) : Prop :=
  ∀ (A : Around) (outer : List PySem.Env) (s : Shared) (H : Hp) (us : List Value) (vs : List V) (xs : List MV) (Q : Post) (g : Mu) (I F : Hp) (st : Sto), Room L A → A.guards = some [] →
    Env0 T.prog T.w T.K T.mg T.base A outer s H → Vals vs us → Sim T.K T.cl g I F H st → RepVs T.K g I xs vs → Φ q xs st Q NoX →
    codeAny (model T.prog T.w) A (.call (.ref a) ⟨us, []⟩) (CR CX0 outer T.prog T.w H s (QV T.K T.cl g I F Q) E0) s

/-- where one stands -/
structure COk (T : Tab) (L : Nat) (X : Cx) : Prop where
  pr : X.prog = T.prog
  w : X.w = T.w
  K : X.K = T.K
  mg : X.mg = T.mg
  ba : X.base = T.base
  calm : X.calm = true
  nd : X.N.Nodup
  room : Room (L + 2) X.A
  gu : X.A.guards = some []
  po : PassesOwn (model X.prog X.w) X.A X.env X.xe
  kind : X.env.scope.kind = .function

/-- the facts of the top -/
structure TOk (T : Tab) : Prop where
  rp : T.P.rp = rpD
  gl : ∀ x v, T.G.gl.lookup x = some v → scalar v = true ∧ ∃ u, T.mg x = some u ∧ RelV (scV v) u
  bn : ∀ b : Blt, T.mg (Str.ofString (bname b)) = none
  isi : T.mg (Str.ofString "isinstance") = none
  tys : ∀ t : ITy, (∀ c, t ≠ .own c) → T.mg (Str.ofString (tyName t)) = none
  rng : T.mg "range" = none
  enu : T.mg "enumerate" = none
  zip : T.mg "zip" = none
  fn : ∀ f, T.G.fns.contains f = true → ∃ a, T.ad f = some a ∧ T.mg (Str.ofString f) = some (.ref a) ∧ PySem.W.keepIn T.K (.ref a) = true
  cls : ∀ c, T.G.cls.contains c = true → ∃ C q, T.cl c = some C ∧ T.mg (Str.ofString c) = some (.ref C) ∧ T.P.mt c "__init__" = some q
  clk : ∀ c C, T.cl c = some C → Cls T.K C
  mt : ∀ c m q, T.P.mt c m = some q → ∃ C a, T.cl c = some C ∧ T.ad q = some a ∧ Meth T.K C (Str.ofString m) a ∧ PySem.W.fnIn T.K a = true
  mak : ∀ c q C, T.P.mt c "__init__" = some q → T.cl c = some C → ∃ a, T.ad q = some a ∧ Mk T.K C a
  pr : ∀ c f q, T.P.pr c f = some (some q) → ∃ C p a, T.cl c = some C ∧ T.ad q = some a ∧ PropOf T.K C (Str.ofString f) p a
  fl : ∀ c C f, T.cl c = some C → T.P.pr c f = some none → NoAttr T.K C (Str.ofString f)

section
variable {T : Tab} {Φ : Phi} {L : Nat} {X : Cx}
abbrev Tab.QV (T : Tab) := Snd.QV T.K T.cl
abbrev Tab.Sim (T : Tab) := Snd.Sim T.K T.cl
def GoodE (T : Tab) (Φ : Phi) (X : Cx) (ie : IE) (e : Expr) : Prop := ∀ (g : Mu) (I F H : Hp) (st : Sto) (env : Mi.Env) (σ : HS) (Q : Post), EnvRel T.K g I env σ → T.Sim g I F H st → wpE T.P Φ ie env st Q NoX → RunE X e σ H (T.QV g I F Q)
/-- a test's answer -/
def QB (T : Tab) (g : Mu) (I F : Hp) (R : Bool → MV → Sto → Prop) : Bool → Hp → Prop := fun b H' => ∃ g' I' x st', LeM g g' ∧ LeH I I' ∧ T.Sim g' I' F H' st' ∧ truth st' x = some b ∧ R b x st'
theorem QB.from_ {g g1 : Mu} {I I1 F : Hp} {R : Bool → MV → Sto → Prop} {v : Bool} {H : Hp} (hg : LeM g g1) (hI : LeH I I1) (h : QB T g1 I1 F R v H) : QB T g I F R v H := by
  obtain ⟨g', I', x, st', a, b, c⟩ := h
  exact ⟨g', I', x, st', hg.trans a, hI.trans b, c⟩
abbrev PT_ (R : Bool → MV → Sto → Prop) : Post := fun x st1 => ∃ t, truth st1 x = some t ∧ R t x st1
def GoodT (T : Tab) (Φ : Phi) (X : Cx) (ie : IE) (e : Expr) : Prop := ∀ (g : Mu) (I F H : Hp) (st : Sto) (env : Mi.Env) (σ : HS) (R : Bool → MV → Sto → Prop), EnvRel T.K g I env σ → T.Sim g I F H st →
  wpE T.P Φ ie env st (fun x st1 => ∃ t, truth st1 x = some t ∧ R t x st1) NoX → RunT X e σ H (QB T g I F R)
def QA (T : Tab) (g : Mu) (I F : Hp) (Q : List MV → Sto → Prop) : List V → Hp → Prop := fun vs H' => ∃ g' I' xs st', LeM g g' ∧ LeH I I' ∧ T.Sim g' I' F H' st' ∧ RepVs T.K g' I' xs vs ∧ Q xs st'
theorem QA.from_ {g g1 : Mu} {I I1 F : Hp} {Q : List MV → Sto → Prop} {v : List V} {H : Hp} (hg : LeM g g1) (hI : LeH I I1) (h : QA T g1 I1 F Q v H) : QA T g I F Q v H := by
  obtain ⟨g', I', xs, st', a, b, c⟩ := h
  exact ⟨g', I', xs, st', hg.trans a, hI.trans b, c⟩
def GoodA (T : Tab) (Φ : Phi) (X : Cx) (ia : IA) (es : List Expr) : Prop := ∀ (g : Mu) (I F H : Hp) (st : Sto) (env : Mi.Env) (σ : HS) (Q : List MV → Sto → Prop), EnvRel T.K g I env σ → T.Sim g I F H st → wpA T.P Φ ia env st Q NoX → RunA X es σ H (QA T g I F Q)

/-- a value, then the rest -/
theorem GoodE.then_ {ie : IE} {e : Expr} (h : GoodE T Φ X ie e) {g : Mu} {I F H : Hp} {st : Sto} {env : Mi.Env} {σ : HS} {R : Post} (er : EnvRel T.K g I env σ) (S : T.Sim g I F H st) (q : wpE T.P Φ ie env st R NoX) {Q : VK}
    (k : ∀ g1 I1 H1 st1 x v, LeM g g1 → LeH I I1 → T.Sim g1 I1 F H1 st1 → EnvRel T.K g1 I1 env σ → RepV T.K g1 I1 x v → R x st1 → Q v H1) : RunE X e σ H Q :=
  (h g I F H st env σ R er S q).mono fun v H1 ⟨g1, I1, x, st1, a, b, c, d, f⟩ => k g1 I1 H1 st1 x v a b c (er.mono a b) d f
theorem GoodA.then_ {ia : IA} {es : List Expr} (h : GoodA T Φ X ia es) {g : Mu} {I F H : Hp} {st : Sto} {env : Mi.Env} {σ : HS} {R : List MV → Sto → Prop} (er : EnvRel T.K g I env σ) (S : T.Sim g I F H st) (q : wpA T.P Φ ia env st R NoX) {Q : List V → Hp → Prop}
    (k : ∀ g1 I1 H1 st1 xs vs, LeM g g1 → LeH I I1 → T.Sim g1 I1 F H1 st1 → EnvRel T.K g1 I1 env σ → RepVs T.K g1 I1 xs vs → R xs st1 → Q vs H1) : RunA X es σ H Q :=
  (h g I F H st env σ R er S q).mono fun v H1 ⟨g1, I1, x, st1, a, b, c, d, f⟩ => k g1 I1 H1 st1 x v a b c (er.mono a b) d f
theorem GoodT.then_ {ie : IE} {e : Expr} (h : GoodT T Φ X ie e) {g : Mu} {I F H : Hp} {st : Sto} {env : Mi.Env} {σ : HS} {R : Bool → MV → Sto → Prop} (er : EnvRel T.K g I env σ) (S : T.Sim g I F H st) (q : wpE T.P Φ ie env st (fun x st1 => ∃ t, truth st1 x = some t ∧ R t x st1) NoX) {Q : Bool → Hp → Prop}
    (k : ∀ g1 I1 H1 st1 b x, LeM g g1 → LeH I I1 → T.Sim g1 I1 F H1 st1 → EnvRel T.K g1 I1 env σ → truth st1 x = some b → R b x st1 → Q b H1) : RunT X e σ H Q :=
  (h g I F H st env σ R er S q).mono fun v H1 ⟨g1, I1, x, st1, a, b, c, d, f⟩ => k g1 I1 H1 st1 v x a b c (er.mono a b) d f

theorem COk.nd_calm (C : COk T L X) : X.calm = true := C.calm
theorem COk.u (C : COk T L X) : X.A.units + 65 < cLine := by have := C.room.un; omega

/-! ### the steps -/
theorem good_var {i : Nat} {x : Str} {pos : Pos} (hN : X.N[i]? = some x) (hv : Vis X.env.scope x) (hd : (x == ("__debug__" : Str)) = false) (hc : (x == ("__classdict__" : Str)) = false) : GoodE T Φ X (.var i) (.Name x pos) := by
  intro g I F H st env σ Q er S h
  obtain ⟨y, hy, q⟩ := h
  obtain ⟨v, hv', r⟩ := er.2 i y hy
  exact run_E (pe_var hN hv hd hc) ⟨v, hv', QV.mk S r q⟩
theorem good_const {c : Const} {v : MV} {k : Nat} {pos : Pos} (h : constIs c v = true) : GoodE T Φ X (.con v) (.Constant c k pos) := by
  intro g I F H st env σ Q er S q
  replace q : Q v st := q
  cases v with
  | non => cases c <;> first | exact absurd h Bool.false_ne_true | exact run_E pe_non (QV.non S q)
  | bl b =>
    cases c <;> first | exact absurd h Bool.false_ne_true | skip
    rename_i a
    have e : a = b := by simpa [constIs] using h
    subst e
    exact run_E pe_bl (QV.bl S q)
  | int b =>
    cases c <;> first | exact absurd h Bool.false_ne_true | skip
    rename_i a
    have e : a = b := by simpa [constIs] using h
    subst e
    exact run_E pe_int (QV.int S q)
  | str b =>
    cases c <;> first | exact absurd h Bool.false_ne_true | skip
    rename_i a
    have e : a.cps.toList = b := by simpa [constIs] using h
    subst e
    refine run_E pe_str ?_
    show T.QV g I F Q (.str a) H
    have := QV.str (s := a.cps.toList) S q
    rw [show (⟨a.cps.toList.toArray⟩ : Str) = a from toS_list a] at this
    exact this
  | tup xs => cases c <;> exact absurd h Bool.false_ne_true
  | lsv xs => cases c <;> exact absurd h Bool.false_ne_true
  | ref xs => cases c <;> exact absurd h Bool.false_ne_true
theorem good_glob {v : MV} {x : Str} {pos : Pos} (TO : TOk T) (C : COk T L X) (hg : Gl X x) (hd : (x == ("__debug__" : Str)) = false) (h : T.G.gl.lookup x = some v) : GoodE T Φ X (.con v) (.Name x pos) := by
  intro g I F H st env σ Q er S q
  have q : Q v st := q
  obtain ⟨hs, u, hu, ru⟩ := TO.gl x v h
  refine run_E (pe_glob hg (by rw [C.mg]; exact hu) ru hd) ?_
  show T.QV g I F Q (scV v) H
  refine QV.mk (x := v) S ?_ q
  cases v <;> first | (simp [scalar] at hs; done) | rfl
theorem good_tup {es : IA} {xs : List Expr} {k : Nat} {pos : Pos} (h : GoodA T Φ X es xs) : GoodE T Φ X (.tup es) (.Tuple xs k pos) := by
  intro g I F H st env σ Q er S q
  refine run_E (pe_tup rA) ?_
  refine h.then_ er S q fun g1 I1 H1 st1 ys vs a b S1 _ r q1 => ⟨by rw [r.len, ← big_eq]; exact q1.1, fun p hn => QV.from_ a b (new_tup S1 r q1.2 hn)⟩
theorem good_lst {es : IA} {xs : List Expr} {pos : Pos} (h : GoodA T Φ X es xs) : GoodE T Φ X (.lst es) (.List xs pos) := by
  intro g I F H st env σ Q er S q
  refine run_E (pe_lst rA) ?_
  refine h.then_ er S q fun g1 I1 H1 st1 ys vs a b S1 _ r q1 => ⟨by rw [r.len, ← big_eq]; exact q1.1, fun p hn => QV.from_ a b (new_list S1 r q1.2 hn)⟩
theorem good_bin (C : COk T L X) {o : BOp} {a b : IE} {l r : Expr} {pos : Pos} (ha : GoodE T Φ X a l) (hb : GoodE T Φ X b r) : GoodE T Φ X (.bin o a b) (.BinOp l (bop o) r pos) := by
  intro g I F H st env σ Q er S q
  refine run_E (pe_op rSem_ok rE rE) ?_
  refine ha.then_ er S q fun g1 I1 H1 st1 x v a1 b1 S1 er1 r1 q1 => ?_
  refine hb.then_ er1 S1 q1 fun g2 I2 H2 st2 y w a2 b2 S2 er2 r2 q2 => ?_
  have K := C.K
  have := bin_ok (X := X) o (by rw [K]; exact S2) (by rw [K]; exact r1.mono a2 b2) (by rw [K]; exact r2) q2
  rw [K] at this
  exact this.mono fun _ _ z => QV.from_ (a1.trans a2) (b1.trans b2) z
theorem good_neg {a : IE} {l : Expr} {pos : Pos} (ha : GoodE T Φ X a l) : GoodE T Φ X (.neg a) (.UnaryOp .USub l pos) := by
  intro g I F H st env σ Q er S q
  refine run_E (pe_un un_neg rE) ?_
  refine ha.then_ er S q fun g1 I1 H1 st1 x v a1 b1 S1 er1 r1 q1 => ?_
  obtain ⟨i, rfl, q1⟩ := q1
  cases r1
  exact ⟨i, rfl, QV.from_ a1 b1 (QV.int S1 q1)⟩
theorem mark_ok {o : COp} {e : Expr} (h : okCmp o e = true) : behindInMarks (cop o) e = false := by
  cases e <;> first | rfl | skip
  cases o <;> first | exact absurd h Bool.false_ne_true | simp [behindInMarks, cop]
theorem cmp_ok' (C : COk T L X) (o : COp) {g : Mu} {I F H : Hp} {st : Sto} {x y : MV} {v w : V} {Qm : Post} (S : T.Sim g I F H st) (rx : RepV T.K g I x v) (ry : RepV T.K g I y w) (h : opCmp o x y st fun b st' => Qm (.bl b) st') :
    rSem X (compareOp (cop o)) v w H (T.QV g I F Qm) := by
  have K := C.K
  have := cmp_ok (X := X) C.u o (by rw [K]; exact S) (by rw [K]; exact rx) (by rw [K]; exact ry) h
  rw [K] at this
  exact this
theorem good_cmp (C : COk T L X) {o : COp} {a b : IE} {l r : Expr} {pos : Pos} (ha : GoodE T Φ X a l) (hb : GoodE T Φ X b r) (hm : okCmp o r = true) : GoodE T Φ X (.cmp o a b) (.Compare l [cop o] [r] pos) := by
  intro g I F H st env σ Q er S q
  refine run_E (pe_cmpR rSem_ok rE rE (mark_ok hm)) ?_
  refine ha.then_ er S q fun g1 I1 H1 st1 x v a1 b1 S1 er1 r1 q1 => ?_
  refine hb.then_ er1 S1 q1 fun g2 I2 H2 st2 y w a2 b2 S2 er2 r2 q2 => ?_
  exact (cmp_ok' C o S2 (r1.mono a2 b2) r2 q2).mono fun _ _ z => QV.from_ (a1.trans a2) (b1.trans b2) z
end
end Snd
-- S9
namespace Snd
open PySem L2 Mi
section
variable {T : Tab} {Φ : Phi} {L : Nat} {X : Cx}

/-! ### arguments -/
theorem star_cons {e : Expr} {es : List Expr} (env : PySem.Env) (h : noStar (e :: es) = true) : starEach (e :: es) env = (false, eval e env) :: starEach es env := by
  cases e <;> first | rfl | exact absurd h Bool.false_ne_true
theorem noStar_tail {e : Expr} {es : List Expr} (h : noStar (e :: es) = true) : noStar es = true := by
  cases e <;> first | exact h | exact absurd h Bool.false_ne_true
theorem noStar_one {e : Expr} {es : List Expr} (h : noStar (e :: es) = true) : noStar [e] = true := by
  cases e <;> first | rfl | exact absurd h Bool.false_ne_true
theorem star_free (env : PySem.Env) (pos : Pos) : ∀ {es : List Expr}, noStar es = true → (backTo pos (starEach es env)).any (·.1) = false
  | [], _ => rfl
  | e :: es, h => by
    rw [star_cons env h]
    show (false || (backTo pos (starEach es env)).any (·.1)) = false
    rw [star_free env pos (noStar_tail h)]
    rfl
theorem star_all (env : PySem.Env) (pos : Pos) : ∀ {es : List Expr}, noStar es = true → (backTo pos (starEach es env)).all (fun x => !x.1) = true
  | [], _ => rfl
  | e :: es, h => by
    rw [star_cons env h]
    show (true && (backTo pos (starEach es env)).all (fun x => !x.1)) = true
    rw [star_all env pos (noStar_tail h)]
    rfl
theorem good_anil : GoodA T Φ X .nil [] := by
  intro g I F H st env σ Q er S q
  exact run_A pa_nil ⟨g, I, [], st, LeM.refl _, LeH.refl _, S, rfl, q⟩
theorem good_acons {e : IE} {r : IA} {x : Expr} {xs : List Expr} (he : GoodE T Φ X e x) (hr : GoodA T Φ X r xs) (hs : noStar [x] = true) : GoodA T Φ X (.cons e r) (x :: xs) := by
  intro g I F H st env σ Q er S q
  have hs' : starEach (x :: xs) X.env = (false, eval x X.env) :: starEach xs X.env := by
    cases x <;> first | rfl | exact absurd hs Bool.false_ne_true
  refine run_A (pa_cons rE rA hs') ?_
  refine he.then_ er S q fun g1 I1 H1 st1 y v a1 b1 S1 er1 r1 q1 => ?_
  refine hr.then_ er1 S1 q1 fun g2 I2 H2 st2 ys vs a2 b2 S2 er2 r2 q2 => ?_
  exact ⟨g2, I2, y :: ys, st2, a1.trans a2, b1.trans b2, S2, ⟨v, vs, rfl, r1.mono a2 b2, r2⟩, q2⟩
theorem good_astar (C : COk T L X) {e : IE} {r : IA} {x : Expr} {xs : List Expr} {p : Pos} (he : GoodE T Φ X e x) (hr : GoodA T Φ X r xs) : GoodA T Φ X (.star e r) (.Starred x p :: xs) := by
  intro g I F H st env σ Q er S q
  refine run_A (StX.pa_star rE rA rfl) ?_
  refine he.then_ er S q fun g1 I1 H1 st1 y v a1 b1 S1 er1 r1 q1 => ?_
  obtain ⟨zs, hz, q1⟩ := q1
  have K := C.K
  have z := seqL_of (X := X) (by rw [K]; exact S1) (v := v) (xs := zs) (x := y) (by rw [K]; exact r1) hz
  obtain ⟨p, vs, rfl, h2, r2⟩ := z
  refine ⟨p, vs, rfl, h2.symm, ?_⟩
  rw [K] at r2
  refine hr.then_ er1 S1 q1 fun g2 I2 H2 st2 ys ws a2 b2 S2 er2 r3 q2 => ?_
  exact ⟨g2, I2, zs ++ ys, st2, a1.trans a2, b1.trans b2, S2, (r2.mono a2 b2).app r3, q2⟩

/-! ### a test -/
theorem truth_bl {st : Sto} {b t : Bool} (h : truth st (.bl b) = some t) : t = b := by cases h; rfl
/-- the value is asked -/
theorem good_truth (C : COk T L X) {ie : IE} {e : Expr} (h : GoodE T Φ X ie e) (he : ∀ whole, isTrue e X.env whole = (do let v ← whole; standAt e.pos; holding [v] (truthy v))) : GoodT T Φ X ie e := by
  intro g I F H st env σ R er S q
  refine run_T (pt_truth rE he) ?_
  refine h.then_ er S q fun g1 I1 H1 st1 y v a1 b1 S1 er1 r1 q1 => ?_
  obtain ⟨t, ht, q1⟩ := q1
  have K := C.K
  have z := truth_ok S1 r1 ht
  exact ⟨t, by rw [K]; exact z, g1, I1, y, st1, a1, b1, S1, ht, q1⟩
theorem tru_of (C : COk T L X) {g : Mu} {I F H : Hp} {st : Sto} {x : MV} {v : V} {b : Bool} (S : T.Sim g I F H st) (r : RepV T.K g I x v) (h : truth st x = some b) : TruV X.K v H b := by
  rw [C.K]; exact truth_ok S r h
/-- a value that is a bool -/
theorem bl_post (R : Bool → MV → Sto → Prop) : (fun (t : Bool) (st3 : Sto) => ∃ t_1, truth st3 (.bl t) = some t_1 ∧ R t_1 (.bl t) st3) = (fun t st3 => (fun (x : MV) st3 => ∃ k, x = .bl k ∧ R k (.bl k) st3) (.bl t) st3) := by
  funext t st3
  apply propext
  exact ⟨fun ⟨u, h1, h2⟩ => ⟨u, by rw [truth_bl h1], by rw [truth_bl h1] at h2 ⊢; exact h2⟩, fun ⟨u, h1, h2⟩ => by cases h1; exact ⟨t, rfl, h2⟩⟩
theorem good_cmpT (C : COk T L X) {o : COp} {a b : IE} {l r : Expr} {pos : Pos} (ha : GoodE T Φ X a l) (hb : GoodE T Φ X b r) (hm : okCmp o r = true) : GoodT T Φ X (.cmp o a b) (.Compare l [cop o] [r] pos) := by
  intro g I F H st env σ R er S q
  refine run_T (pt_cmpR rSem_ok rE rE (mark_ok hm)) ?_
  refine ha.then_ er S q fun g1 I1 H1 st1 x v a1 b1 S1 er1 r1 q1 => ?_
  refine hb.then_ er1 S1 q1 fun g2 I2 H2 st2 y w a2 b2 S2 er2 r2 q2 => ?_
  rw [bl_post] at q2
  refine (cmp_ok' (Qm := fun (x : MV) st3 => ∃ k, x = .bl k ∧ R k (.bl k) st3) C o S2 (r1.mono a2 b2) r2 q2).mono fun z H3 hz => ?_
  obtain ⟨g3, I3, zm, st3, a3, b3, S3, r3, k, rfl, q3⟩ := hz
  exact ⟨k, r3, g3, I3, .bl k, st3, (a1.trans a2).trans a3, (b1.trans b2).trans b3, S3, rfl, q3⟩

/-! ### and, or, not, a choice: as values -/
theorem good_one {op : BoolOp} {a : IE} {x : Expr} {pos : Pos} (h : GoodE T Φ X a x) : GoodE T Φ X a (.BoolOp op [x] pos) := by
  intro g I F H st env σ Q er S q
  exact run_E (pe_one rE) (h g I F H st env σ Q er S q)
theorem good_and (C : COk T L X) {a b : IE} {x y : Expr} {r : List Expr} {pos : Pos} (ha : GoodE T Φ X a x) (hb : GoodE T Φ X b (.BoolOp .And (y :: r) pos)) : GoodE T Φ X (.and a b) (.BoolOp .And (x :: y :: r) pos) := by
  intro g I F H st env σ Q er S q
  refine run_E (pe_andT rE rE) ?_
  refine ha.then_ er S q fun g1 I1 H1 st1 y v a1 b1 S1 er1 r1 q1 => ?_
  obtain ⟨t, ht, q1⟩ := q1
  refine ⟨t, tru_of C S1 r1 ht, ?_⟩
  cases t with
  | true => exact (hb g1 I1 F H1 st1 env σ Q er1 S1 q1).mono fun _ _ z => QV.from_ a1 b1 z
  | false => exact QV.from_ a1 b1 (QV.mk S1 r1 q1)
theorem good_or (C : COk T L X) {a b : IE} {x y : Expr} {r : List Expr} {pos : Pos} (ha : GoodE T Φ X a x) (hb : GoodE T Φ X b (.BoolOp .Or (y :: r) pos)) : GoodE T Φ X (.or a b) (.BoolOp .Or (x :: y :: r) pos) := by
  intro g I F H st env σ Q er S q
  refine run_E (pe_orT rE rE) ?_
  refine ha.then_ er S q fun g1 I1 H1 st1 y v a1 b1 S1 er1 r1 q1 => ?_
  obtain ⟨t, ht, q1⟩ := q1
  refine ⟨t, tru_of C S1 r1 ht, ?_⟩
  cases t with
  | false => exact (hb g1 I1 F H1 st1 env σ Q er1 S1 q1).mono fun _ _ z => QV.from_ a1 b1 z
  | true => exact QV.from_ a1 b1 (QV.mk S1 r1 q1)
theorem good_not (C : COk T L X) {a : IE} {x : Expr} {pos : Pos} (ha : GoodE T Φ X a x) : GoodE T Φ X (.not a) (.UnaryOp .Not x pos) := by
  intro g I F H st env σ Q er S q
  refine run_E (pe_notT rE) ?_
  refine ha.then_ er S q fun g1 I1 H1 st1 y v a1 b1 S1 er1 r1 q1 => ?_
  obtain ⟨t, ht, q1⟩ := q1
  exact ⟨t, tru_of C S1 r1 ht, QV.from_ a1 b1 (QV.bl S1 q1)⟩
theorem good_ite {c a b : IE} {x y z : Expr} {pos : Pos} (hc : GoodT T Φ X c x) (ha : GoodE T Φ X a y) (hb : GoodE T Φ X b z) : GoodE T Φ X (.ite c a b) (.IfExp x y z pos) := by
  intro g I F H st env σ Q er S q
  refine run_E (pe_ifExp rT rE rE) ?_
  refine hc.then_ er S q fun g1 I1 H1 st1 t x a1 b1 S1 er1 ht q1 => ?_
  cases t with
  | true => exact (ha g1 I1 F H1 st1 env σ Q er1 S1 q1).mono fun _ _ z => QV.from_ a1 b1 z
  | false => exact (hb g1 I1 F H1 st1 env σ Q er1 S1 q1).mono fun _ _ z => QV.from_ a1 b1 z

/-! ### .. as tests -/
def RunW (X : Cx) (e : Expr) : TT := fun σ H Q => ∀ (whole : Sem Value) (pins : List (Addr × Obj)) (s : Shared), Inv X pins σ H s → wpAny (model X.prog X.w) X.A (isTrue e X.env whole) (TP X pins σ Q) X.xe s
theorem rW {e : Expr} : PW X e (RunW X e) := ⟨fun wh pins s _ _ _ I h => h wh pins s I⟩
def GoodW (T : Tab) (Φ : Phi) (X : Cx) (ie : IE) (e : Expr) : Prop := ∀ (g : Mu) (I F H : Hp) (st : Sto) (env : Mi.Env) (σ : HS) (R : Bool → MV → Sto → Prop), EnvRel T.K g I env σ → T.Sim g I F H st →
  wpE T.P Φ ie env st (fun x st1 => ∃ t, truth st1 x = some t ∧ R t x st1) NoX → RunW X e σ H (QB T g I F R)
theorem RunW.mono {e : Expr} {σ : HS} {H : Hp} {Q Q' : Bool → Hp → Prop} (h : RunW X e σ H Q) (hq : ∀ v H', Q v H' → Q' v H') : RunW X e σ H Q' := fun wh pins s I => thn (h wh pins s I) fun _ _ ⟨H', a, c⟩ => ⟨H', a, hq _ _ c⟩
theorem run_W {e : Expr} {t : TT} (h : PW X e t) {σ : HS} {H : Hp} {Q : Bool → Hp → Prop} (q : t σ H Q) : RunW X e σ H Q := fun wh pins s I => h.run wh pins s σ H Q I q
theorem GoodW.t {ie : IE} {e : Expr} (h : GoodW T Φ X ie e) : GoodT T Φ X ie e := fun g I F H st env σ Q er S q pins s I0 => h g I F H st env σ Q er S q _ pins s I0
theorem good_andW1 {a : IE} {x : Expr} {pos : Pos} (h : GoodT T Φ X a x) : GoodW T Φ X a (.BoolOp .And [x] pos) := by
  intro g I F H st env σ Q er S q
  exact run_W (pw_and1 rT) (h g I F H st env σ Q er S q)
theorem good_orW1 {a : IE} {x : Expr} {pos : Pos} (h : GoodT T Φ X a x) : GoodW T Φ X a (.BoolOp .Or [x] pos) := by
  intro g I F H st env σ Q er S q
  exact run_W (pw_or1 rT) (h g I F H st env σ Q er S q)
theorem good_andW {a b : IE} {x y : Expr} {r : List Expr} {pos : Pos} (ha : GoodT T Φ X a x) (hb : GoodW T Φ X b (.BoolOp .And (y :: r) pos)) : GoodW T Φ X (.and a b) (.BoolOp .And (x :: y :: r) pos) := by
  intro g I F H st env σ R er S q
  refine run_W (pw_and rT rW) ?_
  refine ha.then_ (R := fun t x st1 => if t = true then wpE T.P Φ b env st1 (PT_ R) NoX else PT_ R x st1) er S q fun g1 I1 H1 st1 t x a1 b1 S1 er1 ht q1 => ?_
  cases t with
  | true => exact (hb g1 I1 F H1 st1 env σ R er1 S1 q1).mono fun _ _ z => QB.from_ a1 b1 z
  | false =>
    obtain ⟨t', h1, h2⟩ := q1
    rw [ht] at h1; cases h1
    exact ⟨g1, I1, x, st1, a1, b1, S1, ht, h2⟩
theorem good_orW {a b : IE} {x y : Expr} {r : List Expr} {pos : Pos} (ha : GoodT T Φ X a x) (hb : GoodW T Φ X b (.BoolOp .Or (y :: r) pos)) : GoodW T Φ X (.or a b) (.BoolOp .Or (x :: y :: r) pos) := by
  intro g I F H st env σ R er S q
  refine run_W (pw_or rT rW) ?_
  refine ha.then_ (R := fun t x st1 => if t = true then PT_ R x st1 else wpE T.P Φ b env st1 (PT_ R) NoX) er S q fun g1 I1 H1 st1 t x a1 b1 S1 er1 ht q1 => ?_
  cases t with
  | false => exact (hb g1 I1 F H1 st1 env σ R er1 S1 q1).mono fun _ _ z => QB.from_ a1 b1 z
  | true =>
    obtain ⟨t', h1, h2⟩ := q1
    rw [ht] at h1; cases h1
    exact ⟨g1, I1, x, st1, a1, b1, S1, ht, h2⟩
theorem good_notT (C : COk T L X) {a : IE} {x : Expr} {pos : Pos} (ha : GoodT T Φ X a x) : GoodT T Φ X (.not a) (.UnaryOp .Not x pos) := by
  intro g I F H st env σ R er S q
  refine run_T (pt_not rT) ?_
  refine ha.then_ (R := fun t x st1 => PT_ R (.bl (!t)) st1) er S q fun g1 I1 H1 st1 t x a1 b1 S1 er1 ht q1 => ?_
  obtain ⟨t', h1, h2⟩ := q1
  cases h1
  exact ⟨g1, I1, _, st1, a1, b1, S1, rfl, h2⟩
theorem good_iteT {c a b : IE} {x y zz : Expr} {pos : Pos} (hc : GoodT T Φ X c x) (ha : GoodT T Φ X a y) (hb : GoodT T Φ X b zz) : GoodT T Φ X (.ite c a b) (.IfExp x y zz pos) := by
  intro g I F H st env σ R er S q
  refine fun pins s I0 => ?_
  have q0 : wpE T.P Φ c env st (fun x st1 => ∃ t, truth st1 x = some t ∧ (fun t (_ : MV) st1 => if t = true then wpE T.P Φ a env st1 (PT_ R) NoX else wpE T.P Φ b env st1 (PT_ R) NoX) t x st1) NoX := q
  have z := hc.then_ (R := fun t (_ : MV) st1 => if t = true then wpE T.P Φ a env st1 (PT_ R) NoX else wpE T.P Φ b env st1 (PT_ R) NoX) (Q := fun t H1 => ∀ (pins : List (Addr × Obj)) (s : Shared), Inv X pins σ H1 s →
      wpAny (model X.prog X.w) X.A (if t = true then isTrue y X.env (eval y X.env) else isTrue zz X.env (eval zz X.env)) (TP X pins σ (QB T g I F R)) X.xe s) er S q0 fun g1 I1 H1 st1 t x a1 b1 S1 er1 ht q1 => fun pins s I0 => ?_
  · show wpAny _ _ (isTrue x X.env (eval x X.env) >>= fun t => if t = true then isTrue y X.env (eval y X.env) else isTrue zz X.env (eval zz X.env)) _ _ _
    exact wpAny_bind (thn (z pins s I0) fun t s1 ⟨H1, I1, k⟩ => k pins s1 I1)
  · cases t with
    | true => exact (ha g1 I1 F H1 st1 env σ R er1 S1 q1).mono (fun _ _ z => QB.from_ a1 b1 z) pins s I0
    | false => exact (hb g1 I1 F H1 st1 env σ R er1 S1 q1).mono (fun _ _ z => QB.from_ a1 b1 z) pins s I0
/-! ### a chain of two comparisons -/
theorem marks_ok {o1 o2 : COp} {b c : Expr} (h : okCmp o2 c = true) : lastMarks [cop o1, cop o2] [b, c] = false := by
  show behindInMarks (cop o2) c = false
  exact mark_ok h
theorem good_chn (C : COk T L X) {o1 o2 : COp} {a b c : IE} {x y z : Expr} {pos : Pos} (ha : GoodE T Φ X a x) (hb : GoodE T Φ X b y) (hc : GoodE T Φ X c z) (hm : okCmp o2 z = true) : GoodE T Φ X (.chn o1 o2 a b c) (.Compare x [cop o1, cop o2] [y, z] pos) := by
  intro g I F H st env σ Q er S q
  refine run_E (pe_chain rSem_ok rSem_ok rE rE rE (marks_ok hm)) ?_
  refine ha.then_ er S q fun g1 I1 H1 st1 x v a1 b1 S1 er1 r1 q1 => ?_
  refine hb.then_ er1 S1 q1 fun g2 I2 H2 st2 y w a2 b2 S2 er2 r2 q2 => ?_
  refine (cmp_ok' (Qm := fun (u : MV) st3 => ∃ k, u = .bl k ∧ if k = true then wpE T.P Φ c env st3 (fun z st4 => opCmp o2 y z st4 fun u st5 => Q (.bl u) st5) NoX else Q (.bl false) st3) C o1 S2 (r1.mono a2 b2) r2 ?_).mono fun u H3 hu => ?_
  · have e : (fun (t : Bool) (st3 : Sto) => if t = true then wpE T.P Φ c env st3 (fun z st4 => opCmp o2 y z st4 fun u st5 => Q (.bl u) st5) NoX else Q (.bl false) st3) =
      (fun (t : Bool) (st3 : Sto) => ∃ k, (MV.bl t) = .bl k ∧ if k = true then wpE T.P Φ c env st3 (fun z st4 => opCmp o2 y z st4 fun u st5 => Q (.bl u) st5) NoX else Q (.bl false) st3) := by
      funext t st3
      apply propext
      exact ⟨fun h => ⟨t, rfl, h⟩, fun ⟨k, h1, h2⟩ => by cases h1; exact h2⟩
    rw [e] at q2
    exact q2
  · obtain ⟨g3, I3, zm, st3, a3, b3, S3, r3, k, rfl, q3⟩ := hu
    refine ⟨k, r3, ?_⟩
    have a' := (a1.trans a2).trans a3
    have b' := (b1.trans b2).trans b3
    cases k with
    | false => exact QV.from_ a' b' (QV.bl S3 q3)
    | true =>
      refine hc.then_ (er2.mono a3 b3) S3 q3 fun g4 I4 H4 st4 z u a4 b4 S4 er4 r4 q4 => ?_
      exact (cmp_ok' C o2 S4 (r2.mono (a3.trans a4) (b3.trans b4)) r4 q4).mono fun _ _ w => QV.from_ (a'.trans a4) (b'.trans b4) w
theorem good_chnT (C : COk T L X) {o1 o2 : COp} {a b c : IE} {x y z : Expr} {pos : Pos} (ha : GoodE T Φ X a x) (hb : GoodE T Φ X b y) (hc : GoodE T Φ X c z) (hm : okCmp o2 z = true) : GoodT T Φ X (.chn o1 o2 a b c) (.Compare x [cop o1, cop o2] [y, z] pos) := by
  intro g I F H st env σ R er S q
  refine run_T (pt_chain rSem_ok rSem_ok rE rE rE (marks_ok hm)) ?_
  refine ha.then_ er S q fun g1 I1 H1 st1 x v a1 b1 S1 er1 r1 q1 => ?_
  refine hb.then_ er1 S1 q1 fun g2 I2 H2 st2 y w a2 b2 S2 er2 r2 q2 => ?_
  refine (cmp_ok' (Qm := fun (u : MV) st3 => ∃ k, u = .bl k ∧ if k = true then wpE T.P Φ c env st3 (fun z st4 => opCmp o2 y z st4 fun u st5 => PT_ R (.bl u) st5) NoX else PT_ R (.bl false) st3) C o1 S2 (r1.mono a2 b2) r2 ?_).mono fun u H3 hu => ?_
  · have e : (fun (t : Bool) (st3 : Sto) => if t = true then wpE T.P Φ c env st3 (fun z st4 => opCmp o2 y z st4 fun u st5 => PT_ R (.bl u) st5) NoX else PT_ R (.bl false) st3) =
      (fun (t : Bool) (st3 : Sto) => ∃ k, (MV.bl t) = .bl k ∧ if k = true then wpE T.P Φ c env st3 (fun z st4 => opCmp o2 y z st4 fun u st5 => PT_ R (.bl u) st5) NoX else PT_ R (.bl false) st3) := by
      funext t st3
      apply propext
      exact ⟨fun h => ⟨t, rfl, h⟩, fun ⟨k, h1, h2⟩ => by cases h1; exact h2⟩
    rw [← e]
    exact q2
  · obtain ⟨g3, I3, zm, st3, a3, b3, S3, r3, k, rfl, q3⟩ := hu
    refine ⟨k, r3, ?_⟩
    have a' := (a1.trans a2).trans a3
    have b' := (b1.trans b2).trans b3
    cases k with
    | false =>
      obtain ⟨t, ht, q3⟩ := q3
      cases ht
      exact ⟨false, rfl, g3, I3, .bl false, st3, a', b', S3, rfl, q3⟩
    | true =>
      refine hc.then_ (er2.mono a3 b3) S3 q3 fun g4 I4 H4 st4 z u a4 b4 S4 er4 r4 q4 => ?_
      have q4 : opCmp o2 y z st4 (fun (t : Bool) (st3 : Sto) => ∃ t_1, truth st3 (.bl t) = some t_1 ∧ R t_1 (.bl t) st3) := q4
      rw [bl_post] at q4
      refine (cmp_ok' (Qm := fun (x : MV) st3 => ∃ k, x = .bl k ∧ R k (.bl k) st3) C o2 S4 (r2.mono (a3.trans a4) (b3.trans b4)) r4 q4).mono fun w H5 hw => ?_
      obtain ⟨g5, I5, zm, st5, a5, b5, S5, r5, k, rfl, q5⟩ := hw
      exact ⟨k, r5, g5, I5, .bl k, st5, (a'.trans a4).trans a5, (b'.trans b4).trans b5, S5, rfl, q5⟩
end
end Snd
-- S10
namespace Snd
open PySem L2 Mi
section
variable {T : Tab} {Φ : Phi} {L : Nat} {X : Cx}

/-! ### a callee runs -/
theorem fnc_run (C : COk T L X) {q : String} {a : Addr} (Fn : FnC T Φ L q a) {A : Around} {E' : Value → Shared → Prop} {pins : List (Addr × Obj)} {s : Shared} {σ : HS} {H : Hp} {us : List Value} {vs : List V} {xs : List MV} {Q : Post} {g : Mu} {I F : Hp} {st : Sto}
    (hr : Room L A) (hg : A.guards = some []) (e0 : Env0 X.prog X.w X.K X.mg X.base A X.stack s H) (I0 : Inv X pins σ H s) (r : Vals vs us) (S : T.Sim g I F H st) (rx : RepVs T.K g I xs vs) (h : Φ q xs st Q NoX) :
    wpAny (model X.prog X.w) A (call (.ref a) us) (EP X pins σ (T.QV g I F Q)) E' s := by
  refine wpAny_call ?_
  have z := Fn A X.stack s H us vs xs Q g I F st hr hg (by rw [← C.pr, ← C.w, ← C.K, ← C.mg, ← C.ba]; exact e0) r S rx h
  rw [← C.pr, ← C.w] at z
  refine codeAny_mono z fun r s' hq => ?_
  cases r with
  | error e => exact hq.elim
  | ok fl =>
    cases fl with
    | ret u => exact I0.after hq
    | next => exact hq.elim
    | brk => exact hq.elim
    | cont => exact hq.elim
def AllF (T : Tab) (Φ : Phi) (L : Nat) : Prop := ∀ q a, T.ad q = some a → FnC T Φ L q a
theorem COk.r0 (C : COk T L X) : Room L X.A := C.room.mono (by omega)
theorem COk.rin (C : COk T L X) : Room L X.A.in1 := (Room.in1 (k := L + 1) C.room).mono (by omega)

/-! ### f(..) -/
theorem good_call0 (TO : TOk T) (C : COk T L X) (HF : AllF T Φ L) {f : String} {p pos : Pos} (hg : Gl X (Str.ofString f)) (hd : (Str.ofString f == ("__debug__" : Str)) = false) (hf : T.G.fns.contains f = true) :
    GoodE T Φ X (.call f .nil) (.Call (.Name (Str.ofString f) p) [] [] pos) := by
  intro g I F H st env σ Q er S q pins s I0
  obtain ⟨a, ha, hm, hk⟩ := TO.fn f hf
  refine wpAny_Call_Name_kw (ld_glob I0 hg (by rw [C.mg]; exact hm) ?_ hd)
  exact PySem.W.callWith_K0 I0.kIn (by rw [C.K]; exact hk) (fnc_run C (HF _ _ ha) (us := []) (vs := []) (xs := []) C.r0 C.gu I0.env0 I0 .nil S rfl q)
theorem good_call (TO : TOk T) (C : COk T L X) (HF : AllF T Φ L) {f : String} {es : IA} {x : Expr} {xs : List Expr} {p pos : Pos} (h : GoodA T Φ X es (x :: xs)) (hg : Gl X (Str.ofString f)) (hd : (Str.ofString f == ("__debug__" : Str)) = false) (hf : T.G.fns.contains f = true)
    (hs : noStar (x :: xs) = true) : GoodE T Φ X (.call f es) (.Call (.Name (Str.ofString f) p) (x :: xs) [] pos) := by
  intro g I F H st env σ Q er S q pins s I0
  obtain ⟨a, ha, hm, hk⟩ := TO.fn f hf
  refine wpAny_Call_Name_kw (ld_glob I0 hg (by rw [C.mg]; exact hm) ?_ hd)
  refine PySem.W.callWith_K (h₀ := X.base) I0.ok.mod.kin (by rw [C.K]; exact hk) (thn (h g I F H st env σ _ er S q pos pins s I0) fun us s1 ⟨vs, H1, I1, r, g1, m1, ys, st1, a1, b1, S1, r1, q1⟩ => ⟨I1.kIn, ?_⟩) (star_cons _ hs) (star_free _ _ (noStar_tail hs))
  exact thn (fnc_run C (HF _ _ ha) C.r0 C.gu I1.env0 I1 r S1 r1 q1) fun u s2 ⟨v, H2, I2, r2, q2⟩ => ⟨v, H2, I2, r2, QV.from_ a1 b1 q2⟩

/-! ### C(..) -/
theorem made_sim {g : Mu} {I F H : Hp} {st : Sto} {c : String} {C : Addr} {x dx : Addr} (S : T.Sim g I F H st) (hc : T.cl c = some C) (hx : H x = none) (hd : H dx = none) (hn : dx ≠ x) :
    T.Sim (gAdd g st.length x) (upd I dx (.own x)) F (upd (upd H dx (.own x)) x (.ins C dx [])) (st ++ [.ins c []]) := by
  have S1 := S.frozen (u := .own x) hd
  have hx1 : (upd H dx (.own x)) x = none := by rw [upd_ne (Ne.symm hn)]; exact hx
  exact S1.new (mo := .ins c []) hx1 ⟨C, dx, [], hc, upd_same, .nil⟩
theorem mk_run (TO : TOk T) (C : COk T L X) {q c : String} {a Cl : Addr} (Fn : FnC T Φ L q a) (M : Mk T.K Cl a) (hc : T.cl c = some Cl) {pins : List (Addr × Obj)} {s : Shared} {σ : HS} {H : Hp} {us : List Value} {vs : List V} {xs : List MV} {Q : Post} {g : Mu} {I F : Hp} {st : Sto}
    (I0 : Inv X pins σ H s) (r : Vals vs us) (S : T.Sim g I F H st) (rx : RepVs T.K g I xs vs) (h : Φ q (.ref st.length :: xs) (st ++ [.ins c []]) (fun v st2 => v = .non ∧ Q (.ref st.length) st2) NoX) :
    wpAny (model X.prog X.w) X.A (call (.ref Cl) us) (EP X pins σ (T.QV g I F Q)) X.xe s := by
  have hx : H (s.heap.objs.size + 1) = none := I0.hok.fresh (Nat.le_succ _)
  have hd : H s.heap.objs.size = none := I0.hok.fresh (Nat.le_refl _)
  have ne : s.heap.objs.size ≠ s.heap.objs.size + 1 := Nat.ne_of_lt (Nat.lt_succ_self _)
  have I2 := Inv.made (C := Cl) I0
  have S2 := made_sim (c := c) S hc hx hd ne
  have hg1 : LeM g (gAdd g st.length (s.heap.objs.size + 1)) := gAdd_le S.no
  have hI1 : LeH I (upd I s.heap.objs.size (.own (s.heap.objs.size + 1))) := fresh_le S.ih hd
  have rx2 : RepVs T.K (gAdd g st.length (s.heap.objs.size + 1)) (upd I s.heap.objs.size (.own (s.heap.objs.size + 1))) (.ref st.length :: xs) (V.ref (s.heap.objs.size + 1) :: vs) :=
    ⟨_, _, rfl, ⟨s.heap.objs.size + 1, by unfold gAdd; rw [if_pos rfl], rfl⟩, rx.mono hg1 hI1⟩
  refine wpAny_call (make_map (f := a) I0.kIn (by rw [C.K]; exact M.makes) (by rw [C.K]; exact M.init) (by rw [C.K]; exact beq_iff_eq.mp M.fn) ?_)
  have z := Fn (X.A.under (.builtin "type.__call__" ⟨.ref Cl :: us, []⟩)) X.stack _ _ (Value.ref (s.heap.objs.size + 1) :: us) _ _ _ _ _ F _ ((Room.make (k := L + 1) C.room Cl us []).mono (by omega)) (by
      have := C.gu
      first | exact this | simpa [Around.under, Code.weight, Code.isCreation, Code.isGuard, Code.isCaller, Code.frames, Code.isFrame, guardIds] using this)
    (by rw [← C.pr, ← C.w, ← C.K, ← C.mg, ← C.ba]; exact I2.env0.make Cl us []) (.cons (show RelV (V.ref (s.heap.objs.size + 1)) (Value.ref (s.heap.objs.size + 1)) from rfl) r) S2 rx2 h
  rw [← C.pr, ← C.w] at z
  refine codeAny_mono z fun r s' hq => ?_
  cases r with
  | error e => exact hq.elim
  | ok fl =>
    cases fl with
    | ret u =>
      obtain ⟨v, H', I3, rv, g3, m3, y, st3, a3, b3, S3, r3, ev, q3⟩ := I2.after hq
      subst ev
      have r3 : v = .non := r3
      subst r3
      refine ⟨rv, V.ref (s.heap.objs.size + 1), H', I3, rfl, g3, m3, .ref st.length, st3, hg1.trans a3, hI1.trans b3, S3, ⟨s.heap.objs.size + 1, a3 _ _ (by unfold gAdd; rw [if_pos rfl]), rfl⟩, q3⟩
    | next => exact hq.elim
    | brk => exact hq.elim
    | cont => exact hq.elim
theorem good_new0 (TO : TOk T) (C : COk T L X) (HF : AllF T Φ L) {c : String} {p pos : Pos} (hg : Gl X (Str.ofString c)) (hd : (Str.ofString c == ("__debug__" : Str)) = false) (hf : T.G.cls.contains c = true) :
    GoodE T Φ X (.new c .nil) (.Call (.Name (Str.ofString c) p) [] [] pos) := by
  intro g I F H st env σ Q er S q pins s I0
  obtain ⟨qn, hq, q⟩ := q
  obtain ⟨Cl, _, hc, hm, _⟩ := TO.cls c hf
  obtain ⟨a, ha, M⟩ := TO.mak c qn Cl hq hc
  refine wpAny_Call_Name_kw (ld_glob I0 hg (by rw [C.mg]; exact hm) ?_ hd)
  exact PySem.W.callWith_K0 I0.kIn (by rw [C.K]; exact M.kp) (mk_run TO C (HF _ _ ha) M hc (us := []) (vs := []) (xs := []) I0 .nil S rfl q)
theorem good_new (TO : TOk T) (C : COk T L X) (HF : AllF T Φ L) {c : String} {es : IA} {x : Expr} {xs : List Expr} {p pos : Pos} (h : GoodA T Φ X es (x :: xs)) (hg : Gl X (Str.ofString c)) (hd : (Str.ofString c == ("__debug__" : Str)) = false) (hf : T.G.cls.contains c = true)
    (hs : noStar (x :: xs) = true) : GoodE T Φ X (.new c es) (.Call (.Name (Str.ofString c) p) (x :: xs) [] pos) := by
  intro g I F H st env σ Q er S q pins s I0
  obtain ⟨Cl, qn, hc, hm, hq⟩ := TO.cls c hf
  obtain ⟨a, ha, M⟩ := TO.mak c qn Cl hq hc
  refine wpAny_Call_Name_kw (ld_glob I0 hg (by rw [C.mg]; exact hm) ?_ hd)
  refine PySem.W.callWith_K (h₀ := X.base) I0.ok.mod.kin (by rw [C.K]; exact M.kp) (thn (h g I F H st env σ _ er S q pos pins s I0) fun us s1 ⟨vs, H1, I1, r, g1, m1, ys, st1, a1, b1, S1, r1, q1⟩ => ⟨I1.kIn, ?_⟩) (star_cons _ hs) (star_free _ _ (noStar_tail hs))
  obtain ⟨qn', hq', q1⟩ := q1
  rw [hq] at hq'; cases hq'
  exact thn (mk_run TO C (HF _ _ ha) M hc I1 r S1 r1 q1) fun u s2 ⟨v, H2, I2, r2, q2⟩ => ⟨v, H2, I2, r2, QV.from_ a1 b1 q2⟩

/-! ### o.m(..) -/
theorem RepFs.look {K : PySem.W.Frag} {g : Mu} {I : Hp} {fs : List (String × MV)} {ws : List (Str × V)} (r : RepFs K g I fs ws) (f : String) : (∀ x, fs.lookup f = some x → ∃ v, ws.lookup (Str.ofString f) = some v ∧ RepV K g I x v) ∧ (fs.lookup f = none → ws.lookup (Str.ofString f) = none) := by
  induction r with
  | nil => exact ⟨fun _ h => by simp at h, fun _ => rfl⟩
  | @cons f' x v r r' h2 _ ih =>
    simp only [List.lookup_cons]
    by_cases e : f = f'
    · subst e
      simp only [beq_self_eq_true]
      exact ⟨fun y h => by cases h; exact ⟨v, rfl, h2⟩, fun h => by cases h⟩
    · have e1 : (f == f') = false := by simp [e]
      have e2 : (Str.ofString f == Str.ofString f') = false := by
        apply beq_eq_false_iff_ne.mpr
        exact fun z => e (ofS_inj z)
      rw [e1, e2]
      exact ih
theorem base_ok : ∀ {e : Expr} {f : Str} {env : PySem.Env}, okBase e = true → attributeBase e f env (eval e env) = eval e env := by
  intro e f env h
  cases e with
  | Call fn as ks p =>
    cases as with
    | cons x xs => cases fn <;> rfl
    | nil =>
      cases ks with
      | cons k ks => cases fn <;> rfl
      | nil =>
        cases fn with
        | Name id p' =>
          have h : (id != "super") = true := h
          unfold attributeBase
          dsimp only
          rw [h]
          simp
        | _ => rfl
  | _ => rfl
theorem methCall_of {o : Expr} {m : Str} {apos pos : Pos} {es : List Expr} {env : PySem.Env} (hb : attributeBase o m env (eval o env) = eval o env) (hl : (apos.endLine == pos.line) = true) (hall : (backTo pos (starEach es env)).all (fun x => !x.1) = true) (hn : es.length < 20) :
    eval (.Call (.Attribute o m apos) es [] pos) env = (do
      let ov ← eval o env
      standAt apos.atName
      let (f, first) ← holding [ov] (getMethod ov m (do return (← importBound o env).getD true))
      callWith pos f first (backTo pos (starEach es env)) (backToKw pos (keywordEach [] env))) := by
  have hf : methodCallForm (es.length + ([] : List Keyword).length) (backTo pos (starEach es env)) (backToKw pos (keywordEach [] env)) = true := by
    unfold methodCallForm
    rw [hall]
    show (true && true && decide (es.length + 0 + 0 < 30)) = true
    simp; omega
  rw [eval]
  rw [hb]
  unfold methodCall calleeOf methodCallPos
  rw [hf, hl]
  rfl
/-- o.m(..): the object and its class -/
theorem good_mth0 (TO : TOk T) (C : COk T L X) (HF : AllF T Φ L) {a : IE} {m : String} {o : Expr} {apos pos : Pos} (h : GoodE T Φ X a o) (hb : okBase o = true) (hl : (apos.endLine == pos.line) = true) :
    GoodE T Φ X (.mth a m .nil) (.Call (.Attribute o (Str.ofString m) apos) [] [] pos) := by
  intro g I F H st env σ Q er S q pins s I0
  refine PySem.W.methodCall_KW (thn (h g I F H st env σ _ er S q pins s I0) fun u s1 ⟨v, H1, I1, ru, g1, m1, x, st1, a1, b1, S1, r1, q1⟩ => ?_) (methCall_of (base_ok hb) hl rfl (by decide))
  obtain ⟨n, c, fs, qn, rfl, hs, hl', hq, q1⟩ := q1
  obtain ⟨p, hp, rfl⟩ := r1
  cases ru
  obtain ⟨Cl, dx, ws, hc, hH, rf⟩ := S1.at_ hp hs
  obtain ⟨Cl', fa, hc', ha, M, hfn⟩ := TO.mt c m qn hq
  rw [hc] at hc'; cases hc'
  refine getmeth_ok I1 hH (by rw [C.K]; exact TO.clk _ _ hc) (by rw [C.K]; exact M) ((rf.look m).2 hl') ?_
  have rr : RepVs T.K g1 m1 [.ref n] [V.ref p] := ⟨_, _, rfl, ⟨p, hp, rfl⟩, rfl⟩
  exact PySem.W.callWith_K0 (first := [.ref p]) I1.kIn (by rw [C.K]; exact M.kp) (thn (fnc_run C (HF _ _ ha) (us := [.ref p]) (vs := [.ref p]) C.r0 C.gu I1.env0 I1 (.cons rfl .nil) S1 rr q1) fun u s2 ⟨v, H2, I2, r2, q2⟩ => ⟨v, H2, I2, r2, QV.from_ a1 b1 q2⟩)
theorem good_mth (TO : TOk T) (C : COk T L X) (HF : AllF T Φ L) {a : IE} {m : String} {o : Expr} {es : IA} {x : Expr} {xs : List Expr} {apos pos : Pos} (h : GoodE T Φ X a o) (hA : GoodA T Φ X es (x :: xs)) (hb : okBase o = true) (hl : (apos.endLine == pos.line) = true)
    (hs : noStar (x :: xs) = true) (hn : (x :: xs).length < 20) : GoodE T Φ X (.mth a m es) (.Call (.Attribute o (Str.ofString m) apos) (x :: xs) [] pos) := by
  intro g I F H st env σ Q er S q pins s I0
  refine PySem.W.methodCall_KW (thn (h g I F H st env σ _ er S q pins s I0) fun u s1 ⟨v, H1, I1, ru, g1, m1, y, st1, a1, b1, S1, r1, q1⟩ => ?_) (methCall_of (base_ok hb) hl (star_all _ _ hs) hn)
  obtain ⟨n, c, fs, qn, rfl, hs', hl', hq, q1⟩ := q1
  obtain ⟨p, hp, rfl⟩ := r1
  cases ru
  obtain ⟨Cl, dx, ws, hc, hH, rf⟩ := S1.at_ hp hs'
  obtain ⟨Cl', fa, hc', ha, M, hfn⟩ := TO.mt c m qn hq
  rw [hc] at hc'; cases hc'
  refine getmeth_ok I1 hH (by rw [C.K]; exact TO.clk _ _ hc) (by rw [C.K]; exact M) ((rf.look m).2 hl') ?_
  refine PySem.W.callWith_K (first := [.ref p]) (h₀ := X.base) I1.ok.mod.kin (by rw [C.K]; exact M.kp) (thn (hA g1 m1 F H1 st1 env σ _ (er.mono a1 b1) S1 q1 pos pins s1 I1) fun us s2 ⟨vs, H2, I2, r2, g2, m2, ys, st2, a2, b2, S2, r3, q2⟩ => ⟨I2.kIn, ?_⟩) (star_cons _ hs) (star_free _ _ (noStar_tail hs))
  have rr : RepVs T.K g2 m2 (.ref n :: ys) (V.ref p :: vs) := ⟨_, _, rfl, ⟨p, a2 _ _ hp, rfl⟩, r3⟩
  exact thn (fnc_run C (HF _ _ ha) (us := .ref p :: us) (vs := .ref p :: vs) C.r0 C.gu I2.env0 I2 (.cons rfl r2) S2 rr q2) fun u s2 ⟨v, H2, I2, r2, q2⟩ => ⟨v, H2, I2, r2, QV.from_ (a1.trans a2) (b1.trans b2) q2⟩
/-! ### e.f -/
theorem good_fld (TO : TOk T) (C : COk T L X) (HF : AllF T Φ L) {a : IE} {f : String} {e : Expr} {pos : Pos} (h : GoodE T Φ X a e) (hb : okBase e = true) : GoodE T Φ X (.fld a f) (.Attribute e (Str.ofString f) pos) := by
  intro g I F H st env σ Q er S q pins s I0
  refine attr_of (base_ok hb) (thn (h g I F H st env σ _ er S q pins s I0) fun u s1 ⟨v, H1, I1, ru, g1, m1, x, st1, a1, b1, S1, r1, q1⟩ => ?_)
  obtain ⟨n, c, fs, rfl, hs, q1⟩ := q1
  obtain ⟨p, hp, rfl⟩ := r1
  cases ru
  obtain ⟨Cl, dx, ws, hc, hH, rf⟩ := S1.at_ hp hs
  rcases q1 with ⟨hp0, v, hv, q1⟩ | ⟨qn, hq, q1⟩
  · obtain ⟨w, hw, rw_⟩ := (rf.look f).1 v hv
    exact getattr_ok I1 hH (by rw [C.K]; exact TO.clk _ _ hc) (by rw [C.K]; exact TO.fl c Cl f hc hp0) hw fun u' s2 I2 ru => ⟨w, H1, I2, ru, QV.from_ a1 b1 (QV.mk S1 rw_ q1)⟩
  · obtain ⟨Cl', pr, fa, hc', ha, hpr⟩ := TO.pr c f qn hq
    rw [hc] at hc'; cases hc'
    have ck := TO.clk _ _ hc
    rw [← C.K] at ck hpr
    obtain ⟨mA, O, _, _, _, _⟩ := ins_get I1.hok hH
    obtain ⟨od, J, _⟩ := O.look
    obtain ⟨rest, hrec⟩ := hpr.rec_
    have I2 := I1.tok (s1.toks + 1)
    have hc2 : (PySem.W.clsIn X.K Cl).isSome = true := by
      obtain ⟨cd, hc, _⟩ := PySem.W.any_some ck.hd
      rw [hc]
      rfl
    refine PySem.W.get_bind I1.kIn J (PySem.W.plainGet_of (ck.get (Str.ofString f))).1 (PySem.W.findObj_data hc2 hpr.at_ hpr.get hpr.tak) (PySem.W.plainGet_of (ck.get (Str.ofString f))).2 (wpAny_call (PySem.W.prop_get (s := { s1 with toks := s1.toks + 1 }) I1.kIn hrec ?_))
    have z := HF _ _ ha X.A.in1 X.stack { s1 with toks := s1.toks + 1 } H1 [.ref p] [.ref p] [.ref n] Q g1 m1 F st1 C.rin C.gu (by rw [← C.pr, ← C.w, ← C.K, ← C.mg, ← C.ba]; exact I2.env0.in1) (.cons rfl .nil) S1 ⟨_, _, rfl, ⟨p, hp, rfl⟩, rfl⟩ q1
    rw [← C.pr, ← C.w] at z
    refine codeAny_mono z fun r s' hq => ?_
    cases r with
    | error er => exact hq.elim
    | ok fl =>
      cases fl with
      | ret u =>
        obtain ⟨v, H', I3, rv, q3⟩ := I2.after hq
        show wpAny _ _ (handedOut u) _ _ _
        rw [PySem.W.handedOut_of (handed_of rv)]
        exact wpAny_pure ⟨v, H', I3, rv, QV.from_ a1 b1 q3⟩
      | next => exact hq.elim
      | brk => exact hq.elim
      | cont => exact hq.elim
end
end Snd
-- S11
namespace Snd
open PySem L2 Mi
section
variable {T : Tab} {Φ : Phi} {L : Nat} {X : Cx}

/-! ### a[b] -/
theorem ix_plain {b : Expr} (h : okIx b = true) : PlainIx b := by
  intro o i
  cases b <;> first | rfl | exact absurd h Bool.false_ne_true
theorem ix_own {b : Expr} (h : okIx b = true) (o i : Value) : subscripted b true o i = runValue (.builtin "lifetime.subscript" ⟨[o, i], []⟩) := by
  cases b <;> first | with_unfolding_all rfl | exact absurd h Bool.false_ne_true
theorem frm {pins : List (Addr × Obj)} {s : Shared} {σ : HS} {H : Hp} (I : Inv X pins σ H s) : ∃ m, PyProof.Rows.Fr X.base X.env.locals s.heap m := by
  obtain ⟨m, hm, _⟩ := I.loc
  exact ⟨m, hm, I.bk, Nat.le_trans I.ok.bsz I.ok.above⟩
theorem sub_ok' (C : COk T L X) {x i : MV} {v w : V} {Q : Post} {g : Mu} {I F H : Hp} {st : Sto} (S : T.Sim g I F H st) (rx : RepV T.K g I x v) (ry : RepV T.K g I i w) (h : opSub x i st Q) : iSem X v w H (T.QV g I F Q) := by
  have K := C.K
  have := sub_ok (X := X) C.u (by rw [K]; exact S) (by rw [K]; exact rx) (by rw [K]; exact ry) h
  rw [K] at this
  exact this
theorem good_sub (TO : TOk T) (C : COk T L X) (HF : AllF T Φ L) {a i : IE} {x y : Expr} {pos : Pos} (ha : GoodE T Φ X a x) (hi : GoodE T Φ X i y) (hx : okIx y = true) : GoodE T Φ X (.sub a i) (.Subscript x y pos) := by
  intro g I F H st env σ Q er S q pins s I0
  refine PyProof.Rows.Subscript_ (thn (ha g I F H st env σ _ er S q pins s I0) fun u s1 ⟨v, H1, I1, ru, g1, m1, xm, st1, a1, b1, S1, r1, q1⟩ => thn (hi g1 m1 F H1 st1 env σ _ (er.mono a1 b1) S1 q1 pins s1 I1) fun u2 s2 ⟨w, H2, I2, ru2, g2, m2, ym, st2, a2, b2, S2, r2, q2⟩ => ?_)
  rcases q2 with q2 | ⟨n, c, fs, qn, rfl, hs, hq, q2⟩
  · exact thn (sub_ok' C S2 (r1.mono a2 b2) r2 q2 x y pins s2 σ u u2 I2 ru ru2 (ix_plain hx _ _)) fun _ _ ⟨z, H3, I3, r3, q3⟩ => ⟨z, H3, I3, r3, QV.from_ (a1.trans a2) (b1.trans b2) q3⟩
  · obtain ⟨p, hp, rfl⟩ := r1
    cases ru
    obtain ⟨Cl, dx, ws, hc, hH, rf⟩ := S2.at_ (a2 _ _ hp) hs
    obtain ⟨Cl', fa, hc', hfa, M, hfn⟩ := TO.mt c _ qn hq
    rw [hc] at hc'; cases hc'
    obtain ⟨mA, O, _⟩ := ins_get I2.hok hH
    obtain ⟨od, J, _⟩ := O.look
    obtain ⟨mm, Fm⟩ := frm I2
    rw [← C.K] at M hfn
    refine PySem.W.sub_K Fm I2.ok.mod.kin J M.at_ hfn M.fn ?_ (ix_own hx _ _)
    have rr : RepVs T.K g2 m2 [.ref n, ym] [V.ref p, w] := ⟨_, _, rfl, ⟨p, a2 _ _ hp, rfl⟩, _, _, rfl, r2, rfl⟩
    exact thn (fnc_run C (HF _ _ hfa) (us := [.ref p, u2]) (vs := [.ref p, w]) C.rin C.gu I2.env0.in1 I2 (.cons rfl (.cons ru2 .nil)) S2 rr q2) fun _ _ ⟨z, H3, I3, r3, q3⟩ => ⟨z, H3, I3, r3, QV.from_ (a1.trans a2) (b1.trans b2) q3⟩

/-! ### slices -/
def RunO (X : Cx) (e : Option Expr) : TO := fun σ H Q => ∀ (pins : List (Addr × Obj)) (s : Shared), Inv X pins σ H s → wpAny (model X.prog X.w) X.A (evalPart e X.env) (fun u s' => ∃ o H', Inv X pins σ H' s' ∧ IsPart u o ∧ Q o H') X.xe s
theorem rO {e : Option Expr} : PO X e (RunO X e) := ⟨fun pins s _ _ _ I h => h pins s I⟩
theorem run_O {e : Option Expr} {t : TO} (h : PO X e t) {σ : HS} {H : Hp} {Q : Option Int → Hp → Prop} (q : t σ H Q) : RunO X e σ H Q := fun pins s I => h.run pins s σ H Q I q
theorem RunO.mono {e : Option Expr} {σ : HS} {H : Hp} {Q Q' : Option Int → Hp → Prop} (h : RunO X e σ H Q) (hq : ∀ v H', Q v H' → Q' v H') : RunO X e σ H Q' := fun pins s I => thn (h pins s I) fun _ _ ⟨v, H', a, b, c⟩ => ⟨v, H', a, b, hq _ _ c⟩
def QO (T : Tab) (g : Mu) (I F : Hp) (Q : Option Int → Sto → Prop) : Option Int → Hp → Prop := fun v H' => ∃ g' I' st', LeM g g' ∧ LeH I I' ∧ T.Sim g' I' F H' st' ∧ Q v st'
def GoodO (T : Tab) (Φ : Phi) (X : Cx) (ie : IO) (e : Option Expr) : Prop := ∀ (g : Mu) (I F H : Hp) (st : Sto) (env : Mi.Env) (σ : HS) (Q : Option Int → Sto → Prop), EnvRel T.K g I env σ → T.Sim g I F H st → wpO T.P Φ ie env st Q NoX → RunO X e σ H (QO T g I F Q)
theorem good_onon : GoodO T Φ X .non none := fun g I F H st env σ Q er S q => run_O po_none ⟨g, I, st, LeM.refl _, LeH.refl _, S, q⟩
theorem good_osom {ie : IE} {e : Expr} (h : GoodE T Φ X ie e) : GoodO T Φ X (.som ie) (some e) := by
  intro g I F H st env σ Q er S q
  refine run_O (po_some rE) ?_
  refine h.then_ er S q fun g1 I1 H1 st1 y v a1 b1 S1 er1 r1 q1 => ?_
  obtain ⟨i, rfl, q1⟩ := q1
  exact ⟨i, r1, g1, I1, st1, a1, b1, S1, q1⟩
theorem good_sli (C : COk T L X) {a : IE} {lo hi : IO} {x : Expr} {l h : Option Expr} {p pos : Pos} (ha : GoodE T Φ X a x) (hl : GoodO T Φ X lo l) (hh : GoodO T Φ X hi h) : GoodE T Φ X (.sli a lo hi) (.Subscript x (.Slice l h none p) pos) := by
  intro g I F H st env σ Q er S q
  refine run_E (pe_slice slSem_ok rE rO rO) ?_
  refine ha.then_ er S q fun g1 I1 H1 st1 xm v a1 b1 S1 er1 r1 q1 => ?_
  refine (hl g1 I1 F H1 st1 env σ _ er1 S1 q1).mono fun li H2 ⟨g2, I2, st2, a2, b2, S2, q2⟩ => ?_
  refine (hh g2 I2 F H2 st2 env σ _ (er1.mono a2 b2) S2 q2).mono fun ui H3 ⟨g3, I3, st3, a3, b3, S3, q3⟩ => ?_
  have K := C.K
  have z := sli_ok (X := X) (by rw [K]; exact S3) (by rw [K]; exact r1.mono (a2.trans a3) (b2.trans b3)) q3
  rw [K] at z
  exact fun pins s σ v vl vu sl I r hs p1 p2 => by
    obtain ⟨T0, id, h1, h2, h3⟩ := z pins s σ v vl vu sl I r hs p1 p2
    exact ⟨T0, id, h1, h2, thn h3 fun _ _ ⟨z, H3, I3, r3, q3⟩ => ⟨z, H3, I3, r3, QV.from_ ((a1.trans a2).trans a3) ((b1.trans b2).trans b3) q3⟩⟩
theorem good_rev (C : COk T L X) {a : IE} {x : Expr} {k : Nat} {p1 p2 p3 pos : Pos} (ha : GoodE T Φ X a x) :
    GoodE T Φ X (.rev a) (.Subscript x (.Slice none none (some (.UnaryOp .USub (.Constant (.int 1) k p1) p2)) p3) pos) := by
  intro g I F H st env σ Q er S q
  refine run_E (pe_revL rE) ?_
  refine ha.then_ er S q fun g1 I1 H1 st1 xm v a1 b1 S1 er1 r1 q1 => ?_
  obtain ⟨n, xs, rfl, hs, q1⟩ := q1
  obtain ⟨p, hp, rfl⟩ := r1
  obtain ⟨vs, e1, r2⟩ := S1.at_ hp hs
  exact ⟨p, vs, rfl, SqL.of e1, fun p' hn => QV.from_ a1 b1 (new_list S1 r2.rev q1 hn)⟩

/-! ### methods of builtin values -/
def mSem (X : Cx) (id : String) : V → List V → Hp → VK → Prop := fun x xs H Q => ∀ (pins : List (Addr × Obj)) (s : Shared) (σ : HS) (v : Value) (us : List Value), Inv X pins σ H s → RelV x v → Vals xs us →
  wpAny (model X.prog X.w) X.A (call (.builtin id) (v :: us)) (EP X pins σ Q) X.xe s
theorem mSem_ok {id : String} : MtR X id (mSem X id) := fun pins s σ H x xs v us Q I r1 r2 h => h pins s σ v us I r1 r2
theorem mSem_of {id : String} {r : V → List V → Hp → VK → Prop} (ho : MtR X id r) {x : V} {xs : List V} {H : Hp} {Q : VK} (h : r x xs H Q) : mSem X id x xs H Q := fun pins s σ v us I r1 r2 => ho pins s σ H x xs v us Q I r1 r2 h
def mTy : BMt → String
  | .append => "list" | .extend => "list" | .pop => "list" | .index => "list" | .split => "str" | .join => "str" | .get => "dict"
def mId : BMt → String
  | .append => "list.append" | .extend => "list.extend" | .pop => "list.pop" | .index => "list.index" | .split => "str.split" | .join => "str.join" | .get => "dict.get"
theorem m_plain (m : BMt) : PlainAttrs (mTy m) := by
  cases m <;> first | exact PySem.F.plainAttrs_list | exact PySem.F.plainAttrs_str | exact PySem.F.plainAttrs_dict
theorem m_slot (m : BMt) : Slot (mTy m) (Str.ofString (mname m)) (mId m) := by
  cases m
  · exact PySem.F.slot_list_append
  · exact PySem.F.slot_list_extend
  · exact PySem.F.slot_list_pop
  · exact PySem.F.slot_list_index
  · exact PySem.F.slot_str_split
  · exact PySem.F.slot_str_join
  · exact PySem.F.slot_dict_get
theorem m_type (m : BMt) : typeOf (.builtin (mId m)) = pure (.type "method_descriptor") := by
  cases m
  · exact PySem.F.type_list_append
  · exact PySem.F.type_list_extend
  · exact PySem.F.type_list_pop
  · exact PySem.F.type_list_index
  · exact PySem.F.type_str_split
  · exact PySem.F.type_str_join
  · exact PySem.F.type_dict_get
theorem m_tyV (C : COk T L X) {m : BMt} {g : Mu} {I F H : Hp} {st : Sto} {x : MV} {v : V} (S : T.Sim g I F H st) (r : RepV T.K g I x v) (h : btOk m st x = true) : tyV X.K (mTy m) v H := by
  cases x with
  | str s =>
    cases r
    cases m <;> first | rfl | exact absurd h Bool.false_ne_true
  | ref a =>
    obtain ⟨p, hp, rfl⟩ := r
    simp only [btOk] at h
    split at h
    · rename_i xs hs
      obtain ⟨vs, e1, _⟩ := S.at_ hp hs
      cases m <;> first | exact absurd h Bool.false_ne_true | exact .inl ⟨rfl, vs, SqL.of e1⟩
    · rename_i kvs hs
      obtain ⟨ws, e1, _⟩ := S.at_ hp hs
      cases m <;> first | exact absurd h Bool.false_ne_true | exact .inr (.inr (.inl ⟨rfl, .inl ⟨ws, e1⟩⟩))
    · exact absurd h Bool.false_ne_true
  | _ => exact absurd h Bool.false_ne_true
theorem ix63 {n : Nat} {i : Int} {k : Nat} (hn : n ≤ big) (h : ixOf n i = some k) : -(2 ^ 63) ≤ i ∧ i < 2 ^ 63 := by
  unfold ixOf at h
  have hb : big = 16777216 := rfl
  split at h
  · split at h
    · omega
    · cases h
  · split at h
    · omega
    · cases h
theorem find_spec {d : PD} : ∀ {ds : List PD} {j : Nat}, ds.findIdx? (fun z => PD.eqv z d) = some j → ∃ z, ds[j]? = some z ∧ PD.eqv z d = true ∧ ∀ (m : Nat) (z' : PD), m < j → ds[m]? = some z' → PD.eqv z' d = false := by
  intro ds j h
  rw [List.findIdx?_eq_some_iff_getElem] at h
  obtain ⟨hj, h1, h2⟩ := h
  refine ⟨ds[j], List.getElem?_eq_getElem hj, h1, fun m z' hm hz => ?_⟩
  have h3 := h2 m hm
  have hm' : m < ds.length := by omega
  rw [List.getElem?_eq_getElem hm'] at hz
  cases hz
  simpa using h3
theorem bmt_ok (C : COk T L X) (m : BMt) {g : Mu} {I F H : Hp} {st : Sto} {x : MV} {v : V} {xs : List MV} {vs : List V} {Q : Post} (S : T.Sim g I F H st) (rx : RepV T.K g I x v) (rs : RepVs T.K g I xs vs) (h : opBmt m x xs st Q) :
    mSem X (mId m) v vs H (T.QV g I F Q) := by
  have hu := C.u
  have K := C.K
  cases m with
  | append =>
    obtain ⟨a, ys, y, rfl, hs, rfl, hl, q⟩ := h
    obtain ⟨p, hp, rfl⟩ := rx
    obtain ⟨w, rfl, rw_⟩ := rs.one
    obtain ⟨us, e1, r1⟩ := S.at_ hp hs
    have S2 : T.Sim g I F (upd H p (.lst (us ++ [w]))) (st.set a (.lst (ys ++ [y]))) := S.write hp (S.open_ hp e1 fun _ _ z => nomatch z) ⟨us ++ [w], upd_same, r1.app (RepVs.of_one rw_)⟩
    exact mSem_of mt_append ⟨p, us, w, rfl, rfl, e1, by rw [r1.len, ← big_eq]; exact hl, QV.non S2 q⟩
  | extend =>
    obtain ⟨a, ys, b, zs, rfl, hs, rfl, hs2, hl, q⟩ := h
    obtain ⟨p, hp, rfl⟩ := rx
    obtain ⟨w, rfl, rw_⟩ := rs.one
    obtain ⟨p2, hp2, rfl⟩ := rw_
    obtain ⟨us, e1, r1⟩ := S.at_ hp hs
    obtain ⟨ws, e2, r2⟩ := S.at_ hp2 hs2
    have S2 : T.Sim g I F (upd H p (.lst (us ++ ws))) (st.set a (.lst (ys ++ zs))) := S.write hp (S.open_ hp e1 fun _ _ z => nomatch z) ⟨us ++ ws, upd_same, r1.app r2⟩
    exact mSem_of mt_extend ⟨p, p2, us, ws, rfl, rfl, e1, e2, by rw [r1.len, r2.len, ← big_eq]; exact hl, QV.non S2 q⟩
  | pop =>
    obtain ⟨a, ys, i, k, y, rfl, hs, rfl, hl, hk, hy, q⟩ := h
    obtain ⟨p, hp, rfl⟩ := rx
    obtain ⟨w, rfl, rw_⟩ := rs.one
    cases rw_
    obtain ⟨us, e1, r1⟩ := S.at_ hp hs
    obtain ⟨z, ez, rz⟩ := r1.get hy
    have b63 := ix63 (by omega) hk
    have S2 : T.Sim g I F (upd H p (.lst (us.eraseIdx k))) (st.set a (.lst (ys.eraseIdx k))) := S.write hp (S.open_ hp e1 fun _ _ z => nomatch z) ⟨us.eraseIdx k, upd_same, r1.erase k⟩
    refine mSem_of mt_popAt ⟨p, us, i, k, z, rfl, rfl, e1, b63.1, b63.2, ?_, ez, QV.mk S2 rz q⟩
    rw [r1.len]
    exact (ixN_seq (show ixN ys.length i = some k from hk)).1
  | index =>
    obtain ⟨a, ys, y, d, ds, j, rfl, hs, rfl, h1, h2, f1, f2, hj, q⟩ := h
    obtain ⟨p, hp, rfl⟩ := rx
    obtain ⟨w, rfl, rw_⟩ := rs.one
    obtain ⟨us, e1, r1⟩ := S.at_ hp hs
    have n1 := fine_nodic d f1
    have n2 := fine_nodics ds f2
    have D1 := dp_of S 30 y d w n1 h1 rw_
    have D2 : Dp T.K H (.ref p) (.list (pyDs ds)) := .lst (SqL.of e1) (dps_all S 30 n2 h2 r1)
    have s1 := shaped_of (n := 30) (st := st) (by decide) f1 h1
    have s2 := shaped_list (n := 30) (st := st) (by decide) f2 h2
    obtain ⟨z, z1, z2, z3⟩ := find_spec hj
    have at_ : ∀ (m : Nat) (e : PyData), (pyDs ds)[m]? = some e → ∃ z, ds[m]? = some z ∧ e = pyD z := fun m e he => by
      rw [pyDs_map, List.getElem?_map] at he
      cases hz : ds[m]? with
      | none => rw [hz] at he; cases he
      | some z => rw [hz] at he; cases he; exact ⟨z, rfl, rfl⟩
    have nn : ∀ (m : Nat) (z : PD), ds[m]? = some z → z.nodic = true := fun m z hz => nodic_mem n2 z (List.mem_of_getElem? hz)
    rw [← K] at D1 D2
    refine mSem_of (mt_indexD hu) ⟨p, w, pyD d, pyDs ds, j, pyD z, rfl, rfl, D2, D1, s2, s1, by rw [pyDs_map, List.getElem?_map, z1]; rfl, by rw [eqv_py _ _ (nn j z z1) n1]; exact z2, fun m e hm he => ?_, QV.int S q⟩
    obtain ⟨z', hz', rfl⟩ := at_ m e he
    rw [eqv_py _ _ (nn m z' hz') n1]
    exact z3 m z' hm hz'
  | split =>
    obtain ⟨t, c, rfl, rfl, hl, q⟩ := h
    cases rx
    obtain ⟨w, rfl, rw_⟩ := rs.one
    cases rw_
    refine mSem_of mt_split ⟨_, _, rfl, rfl, by simp [Str.length], by rw [len_arr, ← big_eq]; exact hl, fun p hn => ?_⟩
    rw [show Txt.split (⟨t.toArray⟩ : Str) ⟨[c].toArray⟩ = (splitOn c t).map toS from split_toS c t]
    refine new_list S ?_ q hn
    rw [List.map_map]
    exact RepVs.map (f := MV.str) (f' := V.str ∘ toS) (fun t => rfl) _
  | join =>
    obtain ⟨t, y, wsx, rfl, rfl, hs, hl, q⟩ := h
    cases rx
    obtain ⟨w, rfl, rw_⟩ := rs.one
    obtain ⟨p, us, rfl, h1, r1⟩ := seqL_of (X := X) (by rw [K]; exact S) (by rw [K]; exact rw_) hs
    rw [K] at h1 r1
    have e1 := strs_of r1
    subst e1
    refine mSem_of mt_join ⟨_, p, wsx.map toS, rfl, rfl, by rw [K]; exact h1, ?_, ?_⟩
    · rw [List.length_map, len_arr, List.map_map]
      rw [show (Str.length ∘ toS) = (fun w : Tx => w.length) from funext fun w => len_arr w]
      exact hl
    · rw [TL.join_eq, show Str.join (⟨t.toArray⟩ : Str) (wsx.map toS) = toS (joinBy t wsx) from join_toS t wsx]
      exact QV.str S q
  | get =>
    obtain ⟨a, kvs, k, y, rfl, hs, rfl, hk, q⟩ := h
    obtain ⟨p, hp, rfl⟩ := rx
    obtain ⟨w1, w2, rfl, r1, r2⟩ := rs.two
    obtain ⟨k', ek, rfl⟩ := keyV_of hk r1
    obtain ⟨ws, e1, rk⟩ := S.at_ hp hs
    intro pins s σ v us I0 rv rus
    cases rv
    cases rus with
    | cons ru1 t =>
      cases t with
      | cons ru2 t =>
        cases t
        refine d_get2 (by omega) I0 (.inl ⟨ws, k', .inl e1, rfl, rfl⟩) ru1 ru2 fun w' s' I' rw' => ⟨_, H, I', rw', ?_⟩
        have hlk := rk.look ek
        cases hv : kLook k kvs with
        | none =>
          rw [hv] at q
          have := hlk.2 hv
          rw [this]
          exact QV.mk S r2 q
        | some z =>
          rw [hv] at q
          obtain ⟨z', e2, r3⟩ := hlk.1 z hv
          rw [e2]
          exact QV.mk S r3 q
theorem few_ok {e : Expr} {es : List Expr} (env : PySem.Env) (cpos : Pos) (hs : noStar (e :: es) = true) (hn : (e :: es).length < 20) : ((backTo cpos (starEach (e :: es) env)).all (fun x => !x.1) && (backToKw cpos (keywordEach [] env)).all (fun x => x.1.isSome)
      && decide ((e :: es).length + ([] : List Keyword).length + (if ([] : List Keyword).isEmpty then 0 else 1) < 30)) = true := by
  rw [star_all env cpos hs]
  show (true && true && decide ((e :: es).length + 0 + 0 < 30)) = true
  simp only [Bool.true_and, decide_eq_true_eq]
  omega
theorem good_bmt (C : COk T L X) {a : IE} {m : BMt} {o : Expr} {es : IA} {x : Expr} {xs : List Expr} {apos pos : Pos} (h : GoodE T Φ X a o) (hA : GoodA T Φ X es (x :: xs)) (hb : okBase o = true) (hl : (apos.endLine == pos.line) = true)
    (hs : noStar (x :: xs) = true) (hn : (x :: xs).length < 20) : GoodE T Φ X (.bmt a m es) (.Call (.Attribute o (Str.ofString (mname m)) apos) (x :: xs) [] pos) := by
  intro g I F H st env σ Q er S q
  refine run_E (pe_bm (m_plain m) (m_slot m) (m_type m) mSem_ok rE rA (base_ok hb) (few_ok _ _ hs hn) hl (star_cons _ hs) (star_free _ _ (noStar_tail hs))) ?_
  refine h.then_ er S q fun g1 I1 H1 st1 xm v a1 b1 S1 er1 r1 q1 => ?_
  refine ⟨m_tyV C S1 r1 q1.1, ?_⟩
  refine hA.then_ er1 S1 q1.2 fun g2 I2 H2 st2 ys vs a2 b2 S2 er2 r2 q2 => ?_
  exact fun pins s σ v us I r1' r2' => thn (bmt_ok C m S2 (r1.mono a2 b2) r2 q2 pins s σ v us I r1' r2') fun _ _ ⟨z, H3, I3, r3, q3⟩ => ⟨z, H3, I3, r3, QV.from_ (a1.trans a2) (b1.trans b2) q3⟩
end
end Snd
-- S12
namespace Snd
open PySem L2 Mi
section
variable {T : Tab} {Φ : Phi} {L : Nat} {X : Cx}

/-! ### builtins -/
theorem boot_b (b : Blt) : bootBuiltins (Str.ofString (bname b)) = some (bval b) := by
  cases b
  · show bootBuiltins "len" = some (.builtin "len"); decide +kernel
  · show bootBuiltins "abs" = some (.builtin "abs"); decide +kernel
  · show bootBuiltins "int" = some (.type "int"); decide +kernel
  · show bootBuiltins "str" = some (.type "str"); decide +kernel
  · show bootBuiltins "list" = some (.type "list"); decide +kernel
  · show bootBuiltins "tuple" = some (.type "tuple"); decide +kernel
  · show bootBuiltins "max" = some (.builtin "max"); decide +kernel
  · show bootBuiltins "min" = some (.builtin "min"); decide +kernel
  · show bootBuiltins "sum" = some (.builtin "sum"); decide +kernel
  · show bootBuiltins "all" = some (.builtin "all"); decide +kernel
  · show bootBuiltins "any" = some (.builtin "any"); decide +kernel
  · show bootBuiltins "sorted" = some (.builtin "sorted"); decide +kernel
  · show bootBuiltins "repr" = some (.builtin "repr"); decide +kernel
  · show bootBuiltins "dict" = some (.type "dict"); decide +kernel
  · show bootBuiltins "set" = some (.type "set"); decide +kernel
  · show bootBuiltins "range" = some (.type "range"); decide +kernel
theorem b_name (b : Blt) : Str.ofString (bname b) ≠ "__name__" := by cases b <;> decide +kernel
theorem b_debug (b : Blt) : (Str.ofString (bname b) == ("__debug__" : Str)) = false := by cases b <;> decide +kernel
theorem pe_callV {b : Blt} {r : List V → Hp → VK → Prop} {p pos : Pos} {e : Expr} {es : List Expr} {t : TA} (hc : CallR X (bval b) r) (hg : Gl X (Str.ofString (bname b))) (hm : X.mg (Str.ofString (bname b)) = none) (ha : PA X (e :: es) t)
    (he : starEach (e :: es) X.env = (false, eval e X.env) :: starEach es X.env) (hpl : (backTo pos (starEach es X.env)).any (·.1) = false) : PE X (.Call (.Name (Str.ofString (bname b)) p) (e :: es) [] pos) (tCB r t) := by
  have h1 := boot_b b
  have h2 := b_name b
  have h3 := b_debug b
  cases b <;> first | exact pe_callB hc hg hm h1 ha h2 h3 he hpl | exact pe_callTy hc hg hm h1 ha h2 h3 he hpl
theorem good_blt (TO : TOk T) (C : COk T L X) {b : Blt} {es : IA} {x : Expr} {xs : List Expr} {p pos : Pos} (hA : GoodA T Φ X es (x :: xs)) (hg : Gl X (Str.ofString (bname b))) (hs : noStar (x :: xs) = true) :
    GoodE T Φ X (.blt b es) (.Call (.Name (Str.ofString (bname b)) p) (x :: xs) [] pos) := by
  intro g I F H st env σ Q er S q
  refine run_E (pe_callV cSem_ok hg (by rw [C.mg]; exact TO.bn b) rA (star_cons _ hs) (star_free _ _ (noStar_tail hs))) ?_
  refine hA.then_ er S q fun g1 I1 H1 st1 ys vs a1 b1 S1 er1 r1 q1 => ?_
  have K := C.K
  rw [TO.rp] at q1
  have z := blt_ok (X := X) C.nd_calm C.gu C.u b (by rw [K]; exact S1) (by rw [K]; exact r1) q1
  rw [K] at z
  exact fun pins s σ us I r1' => thn (z pins s σ us I r1') fun _ _ ⟨z, H3, I3, r3, q3⟩ => ⟨z, H3, I3, r3, QV.from_ a1 b1 q3⟩

/-! ### isinstance(x, T) -/
def isiB (t : ITy) (n : String) : Bool := match t with | .own _ => false | t => kitB n (tyName t) == some (n == tyName t || (n == "bool" && tyName t == "int"))
theorem kit_of (t : ITy) (ht : ∀ c, t ≠ .own c) : ∀ n ∈ ["NoneType", "bool", "int", "str", "tuple", "list", "dict"], kitB n (tyName t) = some (n == tyName t || (n == "bool" && tyName t == "int")) := by
  cases t with
  | own c => exact absurd rfl (ht c)
  | _ => decide +kernel
theorem boot_ty (t : ITy) (ht : ∀ c, t ≠ .own c) : bootBuiltins (Str.ofString (tyName t)) = some (.type (tyName t)) := by
  cases t with
  | own c => exact absurd rfl (ht c)
  | int => show bootBuiltins "int" = some (.type "int"); decide +kernel
  | bool => show bootBuiltins "bool" = some (.type "bool"); decide +kernel
  | str => show bootBuiltins "str" = some (.type "str"); decide +kernel
  | tuple => show bootBuiltins "tuple" = some (.type "tuple"); decide +kernel
  | list => show bootBuiltins "list" = some (.type "list"); decide +kernel
  | dict => show bootBuiltins "dict" = some (.type "dict"); decide +kernel
theorem isi_ok {X : Cx} {g : Mu} {I F H : Hp} {st : Sto} {cl : String → Option Addr} {t : ITy} (ht : ∀ c, t ≠ .own c) {x : MV} {v : V} {Q : Bool → Sto → Prop} (S : Sim X.K cl g I F H st) (r : RepV X.K g I x v) (h : opIsi t x st Q) :
    ∃ (n : String) (b : Bool), TyX X.K H v (.type n) ∧ PySem.W.kitOne X.K (.type n) (.type (tyName t)) = some b ∧ Q b st := by
  have K := kit_of t ht
  have fin : ∀ {n : String} {b : Bool}, n ∈ ["NoneType", "bool", "int", "str", "tuple", "list", "dict"] → b = (n == tyName t || (n == "bool" && tyName t == "int")) → PySem.W.kitOne X.K (.type n) (.type (tyName t)) = some b := fun {n b} hn hb => by
    rw [hb]; exact kit_ty (K n hn)
  cases x with
  | non => cases r; exact ⟨"NoneType", false, .base .non, fin (by decide) (by cases t <;> first | decide | exact absurd rfl (ht _)), h⟩
  | bl b => cases r; exact ⟨"bool", _, .base (.bl b), fin (by decide) (by cases t <;> first | decide | exact absurd rfl (ht _)), h⟩
  | int i => cases r; exact ⟨"int", _, .base (.int i), fin (by decide) (by cases t <;> first | decide | exact absurd rfl (ht _)), h⟩
  | str s => cases r; exact ⟨"str", _, .base (.str _), fin (by decide) (by cases t <;> first | decide | exact absurd rfl (ht _)), h⟩
  | tup xs =>
    obtain ⟨p, vs, rfl, h1, _⟩ := r
    refine ⟨"tuple", _, ?_, fin (by decide) (by cases t <;> first | decide | exact absurd rfl (ht _)), h⟩
    rcases S.ih.tup h1 with (e | ⟨o, e⟩) | e
    · exact .base (.tup e)
    · exact .fTuple e
    · obtain ⟨o, _, _, hk, hc, _⟩ := e
      exact .kTuple hk hc
  | lsv xs =>
    obtain ⟨p, vs, rfl, h1, _⟩ := r
    refine ⟨"list", _, ?_, fin (by decide) (by cases t <;> first | decide | exact absurd rfl (ht _)), h⟩
    rcases S.ih.lst h1 with (e | ⟨o, e⟩) | e
    · exact .base (.lst e)
    · exact .base (.frz e)
    · obtain ⟨o, _, _, hk, hc, _⟩ := e
      exact .kList hk hc
  | ref a =>
    obtain ⟨p, hp, rfl⟩ := r
    simp only [opIsi] at h
    split at h
    · rename_i xs hs
      obtain ⟨vs, e1, _⟩ := S.at_ hp hs
      exact ⟨"list", _, .base (.lst e1), fin (by decide) (by cases t <;> first | decide | exact absurd rfl (ht _)), h⟩
    · rename_i lk kvs hs
      obtain ⟨ws, e1, _⟩ := dic_rd S hp hs
      refine ⟨"dict", _, ?_, fin (by decide) (by cases t <;> first | decide | exact absurd rfl (ht _)), h⟩
      rcases e1 with e | ⟨o, e⟩
      · exact .base (.dK e)
      · exact .fDict e
    · exact h.elim
theorem good_isi (TO : TOk T) (C : COk T L X) {a : IE} {t : ITy} {y : Expr} {p p2 pos : Pos} (ht : ∀ c, t ≠ .own c) (ha : GoodE T Φ X a y) (hg : Gl X (Str.ofString "isinstance")) (hz : Gl X (Str.ofString (tyName t))) (hs : noStar [y] = true)
    (hd : (Str.ofString (tyName t) == ("__debug__" : Str)) = false) (hn : Str.ofString (tyName t) ≠ "__name__") :
    GoodE T Φ X (.isi a t) (.Call (.Name (Str.ofString "isinstance") p) [y, .Name (Str.ofString (tyName t)) p2] [] pos) := by
  intro g I F H st env σ Q er S q
  have hty : PE X (.Name (Str.ofString (tyName t)) p2) (fun _ H Q => Q (.ty (tyName t)) H) := ⟨fun pins s σ H Q I0 h => ld_blt I0 hz (by rw [C.mg]; exact TO.tys t ht) (boot_ty t ht) ⟨.ty (tyName t), H, I0, rfl, h⟩ hn hd⟩
  have hs2 : starEach [y, .Name (Str.ofString (tyName t)) p2] X.env = (false, eval y X.env) :: starEach [.Name (Str.ofString (tyName t)) p2] X.env := by
    cases y <;> first | rfl | exact absurd hs Bool.false_ne_true
  refine run_E (pe_callB call_isi hg (by rw [C.mg]; exact TO.isi) (by show bootBuiltins "isinstance" = _; decide +kernel) (pa_cons rE (pa_cons hty pa_nil) hs2) (by decide +kernel) (by decide +kernel) hs2 rfl) ?_
  refine ha.then_ er S q fun g1 I1 H1 st1 ym v a1 b1 S1 er1 r1 q1 => ?_
  have K := C.K
  obtain ⟨n, b, h1, h2, q2⟩ := isi_ok (X := X) ht (by rw [K]; exact S1) (by rw [K]; exact r1) q1
  exact ⟨v, .ty (tyName t), .type n, .type (tyName t), b, rfl, .ty _, h1, h2, QV.from_ a1 b1 (QV.bl S1 q2)⟩

/-! ### list(range(n)) -/
theorem good_lrg (TO : TOk T) (C : COk T L X) {a : IE} {z : Expr} {p1 p2 p3 pos : Pos} (ha : GoodE T Φ X a z) (hg : Gl X (Str.ofString "list")) (hr : Gl X (Str.ofString "range")) (hs : noStar [z] = true) :
    GoodE T Φ X (.lrg a) (.Call (.Name (Str.ofString "list") p1) [.Call (.Name (Str.ofString "range") p2) [z] [] p3] [] pos) := by
  intro g I F H st env σ Q er S q
  refine run_E (pe_listRg C.nd_calm hg (by rw [C.mg]; exact TO.bn .list) (prg_1 hr (by rw [C.mg]; exact TO.rng) rE (star_cons _ hs)) rfl) ?_
  refine ha.then_ er S q fun g1 I1 H1 st1 ym v a1 b1 S1 er1 r1 q1 => ?_
  obtain ⟨n, rfl, hn0, hn, q1⟩ := q1
  cases r1
  refine ⟨n, rfl, ?_, fun p hp => QV.from_ a1 b1 (new_list S1 ?_ q1 hp)⟩
  · unfold RgOk
    omega
  · unfold rgV
    rw [show (n - 0).toNat = n.toNat by rw [Int.sub_zero]]
    exact RepVs.map (f := fun (i : Nat) => MV.int (i : Int)) (f' := fun i => V.int (0 + (i : Nat))) (fun i => by show V.int _ = V.int _; rw [Int.zero_add]) _
end
end Snd
-- S13
namespace Snd
open PySem L2 Mi
section
variable {T : Tab} {Φ : Phi} {L : Nat} {X : Cx}

/-! ### what is walked -/
def RunI (X : Cx) (tg iter : Expr) : TI := fun σ H R => ∀ (pins : List (Addr × Obj)) (s : Shared), Inv X pins σ H s →
    wpAny (model X.prog X.w) X.A (eval iter X.env) (fun v s1 => wpAny (model X.prog X.w) X.A (pyIter v) (PIE X pins σ tg R) X.xe s1) X.xe s
theorem rI {tg iter : Expr} : PI X tg iter (RunI X tg iter) := ⟨fun pins s σ H R I h => h pins s I⟩
theorem run_I {tg iter : Expr} {t : TI} (h : PI X tg iter t) {σ : HS} {H : Hp} {R : L2.It → Hp → Prop} (q : t σ H R) : RunI X tg iter σ H R := fun pins s I => h.run pins s σ H R I q
theorem PIE.mono {pins : List (Addr × Obj)} {σ : HS} {tg : Expr} {R R' : L2.It → Hp → Prop} {v : Value} {s : Shared} (hr : ∀ J H, R J H → R' J H) (h : PIE X pins σ tg R v s) : PIE X pins σ tg R' v s := by
  obtain ⟨it, fp, tn, J, H', a, b, c, d, e, f⟩ := h
  exact ⟨it, fp, tn, J, H', a, b, c, d, e, hr _ _ f⟩
theorem RunI.mono {tg iter : Expr} {σ : HS} {H : Hp} {R R' : L2.It → Hp → Prop} (h : RunI X tg iter σ H R) (hr : ∀ J H, R J H → R' J H) : RunI X tg iter σ H R' :=
  fun pins s I => thn (h pins s I) fun v s1 q => thn q fun w s2 z => PIE.mono hr z

/-- how a walk of the model's is a walk of ours -/
def ItRel (T : Tab) (g : Mu) (I F : Hp) (J : L2.It) (xs : List MV) (ok : Sto → Prop) : Prop := ∀ (g' : Mu) (I' F' H' : Hp) (st' : Sto) (i : Nat), LeM g g' → LeH I I' → LeH F F' → T.Sim g' I' F' H' st' → ok st' →
  (xs.length ≤ i → J.stop i H') ∧ ∀ x, xs[i]? = some x → J.go i H' ∧ ∀ v H'', J.yld i H' v H'' → ∃ I'', LeH I' I'' ∧ T.Sim g' I'' F' H'' st' ∧ RepV T.K g' I'' x v
def QI (T : Tab) (g : Mu) (I F : Hp) (R : Mi.It → Sto → Prop) : L2.It → Hp → Prop := fun J H1 => ∃ g1 I1 st1 J', LeM g g1 ∧ LeH I I1 ∧ T.Sim g1 I1 F H1 st1 ∧ ItRel T g1 I1 F J J'.xs J'.ok ∧ R J' st1
abbrev NoFin : Sto → (Sto → Prop) → Prop := fun st k => k st
def GoodI (T : Tab) (Φ : Phi) (X : Cx) (ii : II) (tg iter : Expr) : Prop := ∀ (g : Mu) (I F H : Hp) (st : Sto) (env : Mi.Env) (σ : HS) (R : Mi.It → Sto → (Sto → (Sto → Prop) → Prop) → Prop), EnvRel T.K g I env σ → T.Sim g I F H st →
  wpI T.P Φ ii env st R NoX → RunI X tg iter σ H (QI T g I F fun J st1 => R J st1 NoFin)

/-! the four kinds of a value -/
theorem it_tup {g : Mu} {I F : Hp} {p : Addr} {xs : List MV} {vs : List V} (KX : X.K = T.K) (h : SqT T.K I p vs) (r : RepVs T.K g I xs vs) : ItRel T g I F (Itt X.K p) xs fun _ => True := by
  intro g' I' F' H' st' i hg hI hF S _
  have r' := r.mono hg hI
  have h' := S.ih.tup (hI.tup h)
  refine ⟨fun hl => ⟨vs, by rw [KX]; exact h', by rw [r.len]; exact hl⟩, fun x hx => ?_⟩
  obtain ⟨v, hv, rv⟩ := r'.get hx
  refine ⟨⟨vs, v, by rw [KX]; exact h', hv⟩, fun w H'' y => ?_⟩
  obtain ⟨rfl, y⟩ := y
  have := y vs (by rw [KX]; exact h')
  rw [hv] at this
  cases this
  exact ⟨I', LeH.refl _, S, rv⟩
theorem it_lsv {g : Mu} {I F : Hp} {p : Addr} {xs : List MV} {vs : List V} (KX : X.K = T.K) (h : SqL T.K I p vs) (r : RepVs T.K g I xs vs) : ItRel T g I F (Itl X.K p) xs fun _ => True := by
  intro g' I' F' H' st' i hg hI hF S _
  have r' := r.mono hg hI
  have h' := S.ih.lst (hI.lst h)
  refine ⟨fun hl => ⟨vs, by rw [KX]; exact h', by rw [r.len]; exact hl⟩, fun x hx => ?_⟩
  obtain ⟨v, hv, rv⟩ := r'.get hx
  refine ⟨⟨vs, v, by rw [KX]; exact h', hv⟩, fun w H'' y => ?_⟩
  obtain ⟨rfl, y⟩ := y
  have := y vs (by rw [KX]; exact h')
  rw [hv] at this
  cases this
  exact ⟨I', LeH.refl _, S, rv⟩
theorem it_lst {g : Mu} {I F : Hp} {p : Addr} {a : Nat} {xs : List MV} (KX : X.K = T.K) (hp : g a = some p) : ItRel T g I F (Itl X.K p) xs fun st' => st'[a]? = some (.lst xs) := by
  intro g' I' F' H' st' i hg hI hF S hs
  obtain ⟨vs, e, r⟩ := S.at_ (hg _ _ hp) hs
  have h' : SqL X.K H' p vs := SqL.of e
  refine ⟨fun hl => ⟨vs, h', by rw [r.len]; exact hl⟩, fun x hx => ?_⟩
  obtain ⟨v, hv, rv⟩ := r.get hx
  refine ⟨⟨vs, v, h', hv⟩, fun w H'' y => ?_⟩
  obtain ⟨rfl, y⟩ := y
  have := y vs h'
  rw [hv] at this
  cases this
  exact ⟨I', LeH.refl _, S, rv⟩
theorem it_str {g : Mu} {I F : Hp} (s : Tx) : ItRel T g I F (Its ⟨s.toArray⟩) (s.map fun c => .str [c]) fun _ => True := by
  intro g' I' F' H' st' i hg hI hF S _
  refine ⟨fun hl => ?_, fun x hx => ?_⟩
  · show (s.toArray).size ≤ i
    simpa using hl
  · rw [List.getElem?_map] at hx
    cases hc : s[i]? with
    | none => rw [hc] at hx; cases hx
    | some c =>
      rw [hc] at hx
      cases hx
      have hlt : i < s.length := (List.getElem?_eq_some_iff.mp hc).1
      refine ⟨by show i < (s.toArray).size; simpa using hlt, fun v H'' y => ?_⟩
      obtain ⟨rfl, c', hc', rfl⟩ := y
      have : (s.toArray)[i]? = some c := by simpa using hc
      have hc' : (s.toArray)[i]? = some c' := hc'
      rw [this] at hc'
      cases hc'
      exact ⟨I', LeH.refl _, S, rfl⟩
theorem it_rng {g : Mu} {I F : Hp} (lo : Int) (n : Nat) : ItRel T g I F (Itr lo n) ((List.range n).map fun (i : Nat) => .int (lo + (i : Int))) fun _ => True := by
  intro g' I' F' H' st' i hg hI hF S _
  refine ⟨fun hl => ?_, fun x hx => ?_⟩
  · show n ≤ i
    simpa using hl
  · rw [List.getElem?_map] at hx
    cases hc : (List.range n)[i]? with
    | none => rw [hc] at hx; cases hx
    | some c =>
      rw [hc] at hx
      cases hx
      obtain ⟨hlt, e⟩ := List.getElem?_eq_some_iff.mp hc
      rw [List.getElem_range] at e
      subst e
      refine ⟨by show i < n; simpa using hlt, fun v H'' y => ?_⟩
      obtain ⟨rfl, rfl⟩ := y
      exact ⟨I', LeH.refl _, S, rfl⟩
/-- a new pair -/
theorem pair_ok {g : Mu} {I F H : Hp} {st : Sto} {q : Addr} {x y : MV} {v w : V} (S : T.Sim g I F H st) (hn : H q = none) (r1 : RepV T.K g I x v) (r2 : RepV T.K g I y w) :
    LeH I (upd I q (.tup [v, w])) ∧ T.Sim g (upd I q (.tup [v, w])) F (upd H q (.tup [v, w])) st ∧ RepV T.K g (upd I q (.tup [v, w])) (.tup [x, y]) (.ref q) := by
  have le : LeH I (upd I q (.tup [v, w])) := fresh_le S.ih hn
  refine ⟨le, S.frozen hn, q, [v, w], rfl, SqT.of upd_same, v, [w], rfl, r1.mono (LeM.refl _) le, w, [], rfl, r2.mono (LeM.refl _) le, rfl⟩
theorem enum_get : ∀ {xs : List MV} {n i : Nat} {x : MV}, (enumFrom n xs)[i]? = some x → ∃ y, xs[i]? = some y ∧ x = .tup [.int ((n + i : Nat) : Int), y]
  | [], _, _, _, h => by simp [enumFrom] at h
  | y :: r, n, 0, x, h => by
    simp [enumFrom] at h
    exact ⟨y, rfl, h.symm⟩
  | y :: r, n, i + 1, x, h => by
    simp only [enumFrom, List.getElem?_cons_succ] at h ⊢
    obtain ⟨z, h1, h2⟩ := enum_get h
    exact ⟨z, h1, by rw [h2]; congr 3; congr 1; omega⟩
theorem enum_len : ∀ (xs : List MV) (n : Nat), (enumFrom n xs).length = xs.length
  | [], _ => rfl
  | _ :: r, n => by simp [enumFrom, enum_len r (n + 1)]
theorem it_enum {g : Mu} {I F : Hp} {p : Addr} {a : Nat} {xs : List MV} (hp : g a = some p) : ItRel T g I F (Ite X.K p) (enumFrom 0 xs) fun st' => st'[a]? = some (.lst xs) := by
  intro g' I' F' H' st' i hg hI hF S hs
  obtain ⟨vs, e, r⟩ := S.at_ (hg _ _ hp) hs
  have h' : SqL X.K H' p vs := SqL.of e
  refine ⟨fun hl => ⟨vs, h', by rw [r.len]; rw [enum_len] at hl; exact hl⟩, fun x hx => ?_⟩
  obtain ⟨y, hy, rfl⟩ := enum_get hx
  obtain ⟨v, hv, rv⟩ := r.get hy
  refine ⟨⟨vs, v, h', hv⟩, fun w H'' z => ?_⟩
  obtain ⟨q, v', rfl, hn, rfl, z⟩ := z
  have := z vs h'
  rw [hv] at this
  cases this
  have := pair_ok (x := .int ((0 + i : Nat) : Int)) (v := .int ((i : Nat) : Int)) S hn (by rw [Nat.zero_add]; rfl) rv
  exact ⟨_, this⟩
theorem it_zip {g : Mu} {I F : Hp} {p q : Addr} {a b : Nat} {xs ys : List MV} (hp : g a = some p) (hq : g b = some q) : ItRel T g I F (Itz X.K p q) ((xs.zip ys).map fun z => .tup [z.1, z.2]) fun st' => st'[a]? = some (.lst xs) ∧ st'[b]? = some (.lst ys) := by
  intro g' I' F' H' st' i hg hI hF S hs
  obtain ⟨vs, e, r⟩ := S.at_ (hg _ _ hp) hs.1
  obtain ⟨ws, e2, r2⟩ := S.at_ (hg _ _ hq) hs.2
  have h' : SqL X.K H' p vs := SqL.of e
  have h2 : SqL X.K H' q ws := SqL.of e2
  refine ⟨fun hl => ⟨vs, ws, h', h2, ?_⟩, fun x hx => ?_⟩
  · rw [List.length_map, List.length_zip] at hl
    rw [r.len, r2.len]
    omega
  · rw [List.getElem?_map] at hx
    cases hz : (xs.zip ys)[i]? with
    | none => rw [hz] at hx; cases hx
    | some z =>
      rw [hz] at hx
      cases hx
      obtain ⟨z1, z2⟩ := z
      obtain ⟨h3, h4⟩ := List.getElem?_zip_eq_some.mp hz
      obtain ⟨v, hv, rv⟩ := r.get h3
      obtain ⟨w, hw, rw_⟩ := r2.get h4
      refine ⟨⟨vs, ws, v, w, h', h2, hv, hw⟩, fun u H'' y => ?_⟩
      obtain ⟨t, v', w', rfl, hn, rfl, y1, y2⟩ := y
      have a1 := y1 vs h'
      have a2 := y2 ws h2
      rw [hv] at a1; rw [hw] at a2
      cases a1; cases a2
      exact ⟨_, pair_ok S hn rv rw_⟩
end
end Snd
-- S14
namespace Snd
open PySem L2 Mi
section
variable {T : Tab} {Φ : Phi} {L : Nat} {X : Cx}

/-! ### a value walked -/
def kAny (X : Cx) (te : TE) : TI := fun σ H R => te σ H fun x H1 => (∃ a, x = .ref a ∧ (∃ xs, SqL X.K H1 a xs) ∧ R (Itl X.K a) H1) ∨ (∃ a, x = .ref a ∧ (∃ xs, SqT X.K H1 a xs) ∧ R (Itt X.K a) H1) ∨ ∃ z, x = .str z ∧ R (Its z) H1
theorem one_it {pins : List (Addr × Obj)} {σ : HS} {H : Hp} {s : Shared} (I : Inv X pins σ H s) : ∀ b ∈ [s.heap.objs.size], FpOk X pins H b := fun b hb => by
  obtain rfl : b = s.heap.objs.size := List.mem_singleton.mp hb
  exact I.fpOk (Nat.le_refl _) (I.hok.fresh (Nat.le_refl _))
theorem pi_any {tg e : Expr} {te : TE} (he : PE X e te) : PI X tg e (kAny X te) := by
  refine ⟨fun pins s σ H R I h => thn (he.run pins s σ H _ I h) fun v s1 ⟨x, H1, I1, rx, q1⟩ => ?_⟩
  rcases q1 with ⟨a, rfl, ⟨xs, hq⟩, q⟩ | ⟨a, rfl, ⟨xs, hq⟩, q⟩ | ⟨z, rfl, q⟩
  · cases rx
    obtain ⟨its, _, pl, _⟩ := I1.list hq
    exact wpAny_pyIter_list pl.isList ⟨_, [_], _, _, H1, rfl, I1.kept (t' := s1.toks) (fun _ _ z => Heap.get?_push_of_some _ z), turn_list a _, ⟨_, Heap.get?_push_size _ rfl, rfl, rfl⟩, one_it I1, q⟩
  · cases rx
    obtain ⟨its, _, pl, _⟩ := I1.tuple hq
    exact wpAny_pyIter_tuple pl ⟨_, [_], _, _, H1, rfl, I1.kept (t' := s1.toks) (fun _ _ z => Heap.get?_push_of_some _ z), turn_tuple a _, ⟨_, Heap.get?_push_size _ rfl, rfl, rfl⟩, one_it I1, q⟩
  · obtain ⟨t, rfl⟩ := rx
    cases ha : z.cps.all (· < 128)
    · exact wpAny_pyIter_wide ha (pi_one (tk := s1.toks) I1 _ (turn_str _ z t "str_iterator" (.inr rfl)) ⟨_, Heap.get?_push_size _ rfl, rfl, rfl⟩ q)
    · exact wpAny_pyIter_ascii ha (pi_one (tk := s1.toks) I1 _ (turn_str _ z t "str_ascii_iterator" (.inl rfl)) ⟨_, Heap.get?_push_size _ rfl, rfl, rfl⟩ q)
theorem good_ev (C : COk T L X) {e : IE} {tg x : Expr} (h : GoodE T Φ X e x) : GoodI T Φ X (.ev e) tg x := by
  intro g I F H st env σ R er S q
  refine run_I (pi_any rE) ?_
  refine h.then_ er S q fun g1 I1 H1 st1 y v a1 b1 S1 er1 r1 q1 => ?_
  have K := C.K
  cases y with
  | tup xs =>
    obtain ⟨p, vs, rfl, h1, h2⟩ := r1
    exact .inr (.inl ⟨p, rfl, ⟨vs, by rw [K]; exact S1.ih.tup h1⟩, g1, I1, st1, _, a1, b1, S1, it_tup K h1 h2, q1⟩)
  | lsv xs =>
    obtain ⟨p, vs, rfl, h1, h2⟩ := r1
    exact .inl ⟨p, rfl, ⟨vs, by rw [K]; exact S1.ih.lst h1⟩, g1, I1, st1, _, a1, b1, S1, it_lsv K h1 h2, q1⟩
  | str s =>
    cases r1
    exact .inr (.inr ⟨_, rfl, g1, I1, st1, _, a1, b1, S1, it_str s, q1⟩)
  | ref n =>
    obtain ⟨p, hp, rfl⟩ := r1
    simp only [itemsOf] at q1
    split at q1
    · rename_i xs hs
      obtain ⟨vs, e1, _⟩ := S1.at_ hp hs
      exact .inl ⟨p, rfl, ⟨vs, SqL.of e1⟩, g1, I1, st1, _, a1, b1, S1, it_lst K hp, q1⟩
    · exact q1.elim
  | _ => exact q1.elim
theorem good_rng (TO : TOk T) (C : COk T L X) {a : IE} {tg x : Expr} {p pos : Pos} (h : GoodE T Φ X a x) (hg : Gl X (Str.ofString "range")) (hs : noStar [x] = true) : GoodI T Φ X (.rng a) tg (.Call (.Name (Str.ofString "range") p) [x] [] pos) := by
  intro g I F H st env σ R er S q
  refine run_I (pi_range1 hg (by rw [C.mg]; exact TO.rng) (pa_cons rE pa_nil (star_cons _ hs)) (star_cons _ hs)) ?_
  refine h.then_ er S q fun g1 I1 H1 st1 y v a1 b1 S1 er1 r1 q1 => ?_
  obtain ⟨n, rfl, h0, h1, q1⟩ := q1
  cases r1
  refine ⟨n, rfl, by omega, by omega, g1, I1, st1, _, a1, b1, S1, ?_, q1⟩
  have := it_rng (T := T) (g := g1) (I := I1) (F := F) 0 n.toNat
  simpa only [Int.zero_add] using this
theorem good_rng2 (TO : TOk T) (C : COk T L X) {a b : IE} {tg x y : Expr} {p pos : Pos} (ha : GoodE T Φ X a x) (hb : GoodE T Φ X b y) (hg : Gl X (Str.ofString "range")) (hs : noStar [x, y] = true) : GoodI T Φ X (.rng2 a b) tg (.Call (.Name (Str.ofString "range") p) [x, y] [] pos) := by
  intro g I F H st env σ R er S q
  have e1 := star_cons X.env hs
  have e2 := star_cons X.env (noStar_tail hs)
  refine run_I (pi_range2 hg (by rw [C.mg]; exact TO.rng) (pa_cons rE (pa_cons rE pa_nil e2) e1) (by rw [e1, e2]; rfl) e2) ?_
  refine ha.then_ er S q fun g1 I1 H1 st1 y v a1 b1 S1 er1 r1 q1 => ?_
  refine hb.then_ er1 S1 q1 fun g2 I2 H2 st2 z w a2 b2 S2 er2 r2 q2 => ?_
  obtain ⟨n, m, rfl, rfl, h0, h1, h2, h3, q2⟩ := q2
  cases r1
  cases r2
  exact ⟨n, m, rfl, by omega, g2, I2, st2, _, a1.trans a2, b1.trans b2, S2, it_rng n (m - n).toNat, q2⟩
theorem good_enu (TO : TOk T) (C : COk T L X) {e : IE} {x : Expr} {es : List Expr} {k : Nat} {p pos tpos : Pos} (h : GoodE T Φ X e x) (hg : Gl X (Str.ofString "enumerate")) (hs : noStar [x] = true) : GoodI T Φ X (.enu e) (.Tuple es k tpos) (.Call (.Name (Str.ofString "enumerate") p) [x] [] pos) := by
  intro g I F H st env σ R er S q
  refine run_I (pi_enum hg (by rw [C.mg]; exact TO.enu) (pa_cons rE pa_nil (star_cons _ hs)) (star_cons _ hs)) ?_
  refine h.then_ er S q fun g1 I1 H1 st1 y v a1 b1 S1 er1 r1 q1 => ?_
  obtain ⟨n, xs, rfl, hs, q1⟩ := q1
  obtain ⟨p, hp, rfl⟩ := r1
  obtain ⟨vs, e1, _⟩ := S1.at_ hp hs
  exact ⟨p, vs, rfl, SqL.of e1, g1, I1, st1, _, a1, b1, S1, it_enum hp, q1⟩
theorem good_zip (TO : TOk T) (C : COk T L X) {a b : IE} {x y : Expr} {es : List Expr} {k : Nat} {p pos tpos : Pos} (ha : GoodE T Φ X a x) (hb : GoodE T Φ X b y) (hg : Gl X (Str.ofString "zip")) (hs : noStar [x, y] = true) : GoodI T Φ X (.zip a b) (.Tuple es k tpos) (.Call (.Name (Str.ofString "zip") p) [x, y] [] pos) := by
  intro g I F H st env σ R er S q
  have e1 := star_cons X.env hs
  have e2 := star_cons X.env (noStar_tail hs)
  refine run_I (pi_zip hg (by rw [C.mg]; exact TO.zip) (pa_cons rE (pa_cons rE pa_nil e2) e1) e1 (star_free _ _ (noStar_tail hs))) ?_
  refine ha.then_ er S q fun g1 I1 H1 st1 y v a1 b1 S1 er1 r1 q1 => ?_
  refine hb.then_ er1 S1 q1 fun g2 I2 H2 st2 z w a2 b2 S2 er2 r2 q2 => ?_
  obtain ⟨m, n, xs, ys, rfl, rfl, h1, h2, q2⟩ := q2
  obtain ⟨p, hp, rfl⟩ := r1
  obtain ⟨q, hq, rfl⟩ := r2
  obtain ⟨vs, e1, _⟩ := S2.at_ (a2 _ _ hp) h1
  obtain ⟨ws, e2, _⟩ := S2.at_ hq h2
  exact ⟨p, q, vs, ws, rfl, SqL.of e1, SqL.of e2, g2, I2, st2, _, a1.trans a2, b1.trans b2, S2, it_zip (a2 _ _ hp) hq, q2⟩

end
end Snd
-- S15
namespace Snd
open PySem L2 Mi
section
variable {T : Tab} {Φ : Phi} {L : Nat} {X : Cx}

/-! ### targets -/
def gAll : List Nat → TGs
  | [] => gNil
  | i :: r => gCons (gName i) (gAll r)
def tgS (K : PySem.W.Frag) : ITg → TG
  | .name i => gName i
  | .tup ns => gTup K ns.length (gAll ns)
def tgU (K : PySem.W.Frag) : ITg → TG
  | .name i => gName i
  | .tup ns => gUnl K ns.length (gAll ns)
theorem tgMs_len {N : List Str} {sc : Scope} {fn : Str → Bool} (env : PySem.Env) : ∀ {ns : List Nat} {es : List Expr}, tgMs N sc fn ns es = true → (assignEach es env).length = ns.length ∧ (assignEach es env).findIdx? (·.1) = none
  | [], [], _ => ⟨rfl, rfl⟩
  | i :: r, .Name x p :: es, h => by
    simp only [tgMs, Bool.and_eq_true] at h
    obtain ⟨h1, h2⟩ := tgMs_len env h.2
    refine ⟨?_, ?_⟩
    · show (assignEach es env).length + 1 = r.length + 1
      rw [h1]
    · show ((false, _) :: assignEach es env).findIdx? (·.1) = none
      rw [List.findIdx?_cons]
      simp [h2]
theorem tgMs_pg (nd : X.N.Nodup) : ∀ {ns : List Nat} {es : List Expr}, tgMs X.N X.env.scope X.fn ns es = true → PGs X es (gAll ns)
  | [], [], _ => pgs_nil
  | i :: r, .Name x p :: es, h => by
    simp only [tgMs, Bool.and_eq_true, decide_eq_true_eq] at h
    obtain ⟨⟨h1, h2⟩, h3⟩ := h
    obtain ⟨h4, h5⟩ := isLoc_ok h2
    exact pgs_cons (pg_name nd h1 h4 h5) (tgMs_pg nd h3)
theorem tg_pg (nd : X.N.Nodup) (hc : X.calm = true) {tg : ITg} {e : Expr} (h : tgM X.N X.env.scope X.fn tg e = true) : PG X e (tgS X.K tg) := by
  cases tg with
  | name i =>
    cases e <;> first | exact absurd h Bool.false_ne_true | skip
    simp only [tgM, Bool.and_eq_true, decide_eq_true_eq] at h
    obtain ⟨h4, h5⟩ := isLoc_ok h.2
    exact pg_name nd h.1 h4 h5
  | tup ns =>
    cases e <;> first | exact absurd h Bool.false_ne_true | skip
    obtain ⟨h1, h2⟩ := tgMs_len X.env h
    exact pg_tup hc (tgMs_pg nd h) h1 h2
theorem tg_pgU (nd : X.N.Nodup) (hc : X.calm = true) {tg : ITg} {e : Expr} (h : tgM X.N X.env.scope X.fn tg e = true) : PG X e (tgU X.K tg) := by
  cases tg with
  | name i =>
    cases e <;> first | exact absurd h Bool.false_ne_true | skip
    simp only [tgM, Bool.and_eq_true, decide_eq_true_eq] at h
    obtain ⟨h4, h5⟩ := isLoc_ok h.2
    exact pg_name nd h.1 h4 h5
  | tup ns =>
    cases e <;> first | exact absurd h Bool.false_ne_true | skip
    obtain ⟨h1, h2⟩ := tgMs_len X.env h
    exact pg_unl hc (tgMs_pg nd h) h1 h2
theorem PG.or {e : Expr} {t u : TG} (h : PG X e t) (h' : PG X e u) : PG X e (fun v σ H Q => t v σ H Q ∨ u v σ H Q) :=
  ⟨fun pins s σ H v w Q I r q => q.elim (h.run pins s σ H v w Q I r) (h'.run pins s σ H v w Q I r)⟩
def slots : ITg → List Nat
  | .name i => [i]
  | .tup ns => ns
theorem wipe_get (σ : HS) : ∀ (vs : List Nat) (j : Nat), (wipe σ vs)[j]? = if j ∈ vs then (if j < σ.length then some none else none) else σ[j]?
  | [], j => by simp [wipe]
  | v :: vs, j => by
    unfold wipe
    by_cases e : v = j
    · subst e
      by_cases hl : v < σ.length
      · rw [List.getElem?_set_self (by rw [wipe_length]; exact hl)]
        simp [hl]
      · rw [List.getElem?_eq_none (by rw [List.length_set, wipe_length]; omega)]
        simp [hl]
    · rw [List.getElem?_set_ne e, wipe_get σ vs j]
      have : (j ∈ v :: vs) ↔ j ∈ vs := by simp [Ne.symm e]
      simp [this]
theorem wipe_set {σ : HS} {vs : List Nat} {i : Nat} {o : Option V} (h : i ∈ vs) : wipe (σ.set i o) vs = wipe σ vs := by
  refine List.ext_getElem? fun j => ?_
  rw [wipe_get, wipe_get, List.length_set]
  by_cases e : j ∈ vs
  · simp [e]
  · simp only [e, if_false]
    rw [List.getElem?_set_ne (fun z => e (by rw [← z]; exact h))]
theorem wipe_wipe (σ : HS) (vs : List Nat) : wipe (wipe σ vs) vs = wipe σ vs := by
  refine List.ext_getElem? fun j => ?_
  rw [wipe_get, wipe_get, wipe_length]
  by_cases e : j ∈ vs
  · simp [e]
  · simp [e]
theorem gAll_run {g : Mu} {I H : Hp} {P : HS → Hp → Prop} : ∀ {ns : List Nat} {xs : List MV} {vs : List V} {env : Mi.Env} {σ : HS}, EnvRel T.K g I env σ → RepVs T.K g I xs vs → xs.length = ns.length →
    (∀ σ2, EnvRel T.K g I ((ns.zip xs).foldl (fun s p => s.set p.1 (some p.2)) env) σ2 → (∀ ws, (∀ i ∈ ns, i ∈ ws) → wipe σ2 ws = wipe σ ws) → P σ2 H) → gAll ns vs σ H P
  | [], xs, vs, env, σ, er, r, hl, k => by
    have : xs = [] := List.length_eq_zero_iff.mp hl
    subst this
    have r : vs = [] := r
    exact ⟨r, k σ er fun _ _ => rfl⟩
  | i :: ns, [], vs, env, σ, er, r, hl, k => by simp at hl
  | i :: ns, x :: xs, vs, env, σ, er, r, hl, k => by
    obtain ⟨v, ws, rfl, r1, r2⟩ := r
    refine ⟨v, ws, rfl, ?_⟩
    refine gAll_run (er.set i r1) r2 (by simpa using hl) fun σ2 e2 w2 => k σ2 e2 fun us hu => ?_
    rw [w2 us fun j hj => hu j (List.mem_cons_of_mem _ hj)]
    exact wipe_set (hu i List.mem_cons_self)
theorem tg_run (KX : X.K = T.K) {tg : ITg} {g : Mu} {I F H : Hp} {st : Sto} {x : MV} {v : V} {env : Mi.Env} {σ : HS} {Q : Mi.Env → Prop} {P : HS → Hp → Prop} (er : EnvRel T.K g I env σ) (S : T.Sim g I F H st) (r : RepV T.K g I x v) (h : setTg tg x env Q)
    (k : ∀ σ2 env2, EnvRel T.K g I env2 σ2 → Q env2 → (∀ ws, (∀ i ∈ slots tg, i ∈ ws) → wipe σ2 ws = wipe σ ws) → P σ2 H) : tgS X.K tg v σ H P := by
  cases tg with
  | name i => exact k _ _ (er.set i r) h fun ws hw => wipe_set (hw i List.mem_cons_self)
  | tup ns =>
    obtain ⟨xs, rfl, hl, q⟩ := h
    obtain ⟨p, vs, rfl, h1, h2⟩ := r
    refine ⟨p, vs, rfl, by rw [KX]; exact S.ih.tup h1, by rw [h2.len]; exact hl, ?_⟩
    exact gAll_run er h2 hl fun σ2 e2 w2 => k σ2 _ e2 q w2
theorem tgS_run (KX : X.K = T.K) {tg : ITg} {g : Mu} {I F H : Hp} {st : Sto} {x : MV} {v : V} {env : Mi.Env} {σ : HS} {Q : Mi.Env → Prop} {P : HS → Hp → Prop} (er : EnvRel T.K g I env σ) (S : T.Sim g I F H st) (r : RepV T.K g I x v) (h : setTgS tg x env st Q)
    (k : ∀ σ2 env2, EnvRel T.K g I env2 σ2 → Q env2 → P σ2 H) : tgS X.K tg v σ H P ∨ tgU X.K tg v σ H P := by
  cases tg with
  | name i => exact .inl (k _ _ (er.set i r) h)
  | tup ns =>
    obtain ⟨xs, hs, hl, q⟩ := h
    obtain ⟨p, vs, rfl, h1, h2⟩ := seqL_of (X := X) (by rw [KX]; exact S) (by rw [KX]; exact r) hs
    rw [KX] at h2
    rcases h1 with h1 | h1
    · exact .inr ⟨p, vs, rfl, h1, by rw [h2.len]; exact hl, gAll_run er h2 hl fun σ2 e2 _ => k σ2 _ e2 q⟩
    · exact .inl ⟨p, vs, rfl, h1, by rw [h2.len]; exact hl, gAll_run er h2 hl fun σ2 e2 _ => k σ2 _ e2 q⟩

/-! ### locked dicts walked -/
theorem RepKV.get {K : PySem.W.Frag} {g : Mu} {I : Hp} {kvs : List (MV × MV)} {ws : List (Key × V)} (r : RepKV K g I kvs ws) : ∀ {i : Nat} {k x : MV}, kvs[i]? = some (k, x) → ∃ k' v, ws[i]? = some (k', v) ∧ RepV K g I k (kV k') ∧ RepV K g I x v := by
  induction r with
  | nil => intro i k x h; simp at h
  | @cons a y a' v r r' h1 h2 _ ih =>
    intro i k x h
    cases i with
    | zero =>
      simp at h
      obtain ⟨rfl, rfl⟩ := h
      refine ⟨a', v, rfl, ?_, h2⟩
      cases a <;> simp [keyV] at h1 <;> subst h1 <;> rfl
    | succ i =>
      simp only [List.getElem?_cons_succ] at h ⊢
      exact ih h
theorem locked_at {g' : Mu} {I' F' H' : Hp} {st' : Sto} {p : Addr} {a : Nat} {kvs : List (MV × MV)} {od : Obj} {ws : List (Key × V)} {F : Hp} (S : T.Sim g' I' F' H' st') (hp : g' a = some p) (hF : LeH (upd F p (.frz od (.dK ws))) F') (hs : st'[a]? = some (.dic true kvs)) :
    H' p = some (.frz od (.dK ws)) ∧ RepKV T.K g' I' kvs ws := by
  obtain ⟨o, ws', h1, h2, h3⟩ := S.at_ hp hs
  have := hF p _ upd_same
  rw [this] at h3
  cases h3
  exact ⟨h1, h2⟩
theorem it_keys {g : Mu} {I F : Hp} {p : Addr} {a : Nat} {kvs : List (MV × MV)} {od : Obj} {ws : List (Key × V)} (hp : g a = some p) : ItRel T g I (upd F p (.frz od (.dK ws))) (Itk p od ws) (keysOf kvs) fun st' => st'[a]? = some (.dic true kvs) := by
  intro g' I' F' H' st' i hg hI hF S hs
  obtain ⟨h1, h2⟩ := locked_at S (hg _ _ hp) hF hs
  have hl := h2.len
  refine ⟨fun h => ⟨h1, by rw [hl]; simpa [keysOf] using h⟩, fun x hx => ?_⟩
  rw [keysOf, List.getElem?_map] at hx
  cases hz : kvs[i]? with
  | none => rw [hz] at hx; cases hx
  | some z =>
    rw [hz] at hx; cases hx
    obtain ⟨k, y⟩ := z
    obtain ⟨k', v, e1, e2, e3⟩ := h2.get hz
    refine ⟨⟨h1, (List.getElem?_eq_some_iff.mp e1).1⟩, fun v' H'' y => ?_⟩
    obtain ⟨rfl, k2, v2, e4, rfl⟩ := y
    rw [e1] at e4; cases e4
    exact ⟨I', LeH.refl _, S, e2⟩
theorem it_vals {g : Mu} {I F : Hp} {p : Addr} {a : Nat} {kvs : List (MV × MV)} {od : Obj} {ws : List (Key × V)} (hp : g a = some p) : ItRel T g I (upd F p (.frz od (.dK ws))) (Itd p od ws) (kvs.map (·.2)) fun st' => st'[a]? = some (.dic true kvs) := by
  intro g' I' F' H' st' i hg hI hF S hs
  obtain ⟨h1, h2⟩ := locked_at S (hg _ _ hp) hF hs
  have hl := h2.len
  refine ⟨fun h => ⟨h1, by rw [hl]; simpa using h⟩, fun x hx => ?_⟩
  rw [List.getElem?_map] at hx
  cases hz : kvs[i]? with
  | none => rw [hz] at hx; cases hx
  | some z =>
    rw [hz] at hx; cases hx
    obtain ⟨k, y⟩ := z
    obtain ⟨k', v, e1, e2, e3⟩ := h2.get hz
    refine ⟨⟨h1, (List.getElem?_eq_some_iff.mp e1).1⟩, fun v' H'' y => ?_⟩
    obtain ⟨rfl, k2, e4⟩ := y
    rw [e1] at e4; cases e4
    exact ⟨I', LeH.refl _, S, e3⟩
theorem it_items {g : Mu} {I F : Hp} {p : Addr} {a : Nat} {kvs : List (MV × MV)} {od : Obj} {ws : List (Key × V)} (hp : g a = some p) : ItRel T g I (upd F p (.frz od (.dK ws))) (Iti p od ws) (kvs.map fun kv => .tup [kv.1, kv.2]) fun st' => st'[a]? = some (.dic true kvs) := by
  intro g' I' F' H' st' i hg hI hF S hs
  obtain ⟨h1, h2⟩ := locked_at S (hg _ _ hp) hF hs
  have hl := h2.len
  refine ⟨fun h => ⟨h1, by rw [hl]; simpa using h⟩, fun x hx => ?_⟩
  rw [List.getElem?_map] at hx
  cases hz : kvs[i]? with
  | none => rw [hz] at hx; cases hx
  | some z =>
    rw [hz] at hx; cases hx
    obtain ⟨k, y⟩ := z
    obtain ⟨k', v, e1, e2, e3⟩ := h2.get hz
    refine ⟨⟨h1, (List.getElem?_eq_some_iff.mp e1).1⟩, fun v' H'' y => ?_⟩
    obtain ⟨t, k2, v2, e4, rfl, hn, rfl⟩ := y
    rw [e1] at e4; cases e4
    exact ⟨_, pair_ok S hn e2 e3⟩
end
end Snd
-- S16
namespace Snd
open PySem L2 Mi
section
variable {T : Tab} {Φ : Phi} {L : Nat} {X : Cx}

theorem drop_cons {α : Type} {xs : List α} {i : Nat} {x : α} {r : List α} (h : xs.drop i = x :: r) : xs[i]? = some x ∧ xs.drop (i + 1) = r ∧ i < xs.length := by
  have hl : i < xs.length := by
    rcases Nat.lt_or_ge i xs.length with z | z
    · exact z
    · rw [List.drop_eq_nil_of_le z] at h; cases h
  rw [List.drop_eq_getElem_cons hl] at h
  cases h
  exact ⟨List.getElem?_eq_getElem hl, rfl, hl⟩

/-! ### comprehensions -/
/-- a list that grows, held -/
def HeldL (T : Tab) (g1 : Mu) (I1 F1 : Hp) (D : Addr) (P : List MV → Sto → Prop) (n : Nat) (H' : Hp) : Prop :=
  ∃ g' I' st' acc accV, LeM g1 g' ∧ LeH I1 I' ∧ T.Sim g' I' (upd F1 D (.lst accV)) H' st' ∧ RepVs T.K g' I' acc accV ∧ acc.length ≤ n ∧ P acc st'
theorem lst_nofrz {vs : List V} : ∀ (o : Obj) (ws : List (Key × V)), HO.lst vs ≠ .frz o (.dK ws) := fun _ _ z => nomatch z
theorem dK_nofrz {vs : List (Key × V)} : ∀ (o : Obj) (ws : List (Key × V)), HO.dK vs ≠ .frz o (.dK ws) := fun _ _ z => nomatch z
theorem EnvRel.wipeR {K : PySem.W.Frag} {g g' : Mu} {I I' : Hp} {env : Mi.Env} {σ : HS} (er : EnvRel K g I env σ) (own : List Nat) (hg : LeM g g') (hI : LeH I I') : EnvRel K g' I' (wipeE env own) (L2.wipe σ own) := (er.mono hg hI).wipe own
theorem LeH.frame {F H : Hp} {D : Addr} {u : HO} (S : LeH F H) (hn : H D = none) : LeH F (upd F D u) := fun q o h => by rw [upd_ne (ne_of_none (S _ _ h) hn)]; exact h
def RunTs (X : Cx) (ifs : List Expr) : TT := fun σ H Q => ∀ (pins : List (Addr × Obj)) (s : Shared), Inv X pins σ H s →
    wpAny (model X.prog X.w) X.A (forIn ifs true fun c r => if r = true then do let ok ← isTrue c X.env (eval c X.env); pure (ForInStep.yield ok) else pure (ForInStep.yield r)) (TP X pins σ Q) X.xe s
theorem run_Ts {X : Cx} {ifs : List Expr} {t : TT} (h : PTs X ifs t) {σ : HS} {H : Hp} {Q : Bool → Hp → Prop} (q : t σ H Q) : RunTs X ifs σ H Q := fun pins s I => h.run pins s σ H Q I q
theorem RunTs.mono {X : Cx} {ifs : List Expr} {σ : HS} {H : Hp} {Q Q' : Bool → Hp → Prop} (h : RunTs X ifs σ H Q) (hq : ∀ v H', Q v H' → Q' v H') : RunTs X ifs σ H Q' := fun pins s I => thn (h pins s I) fun _ _ ⟨H', a, c⟩ => ⟨H', a, hq _ _ c⟩
def QC (T : Tab) (g : Mu) (I F : Hp) (Q : Bool → Sto → Prop) : Bool → Hp → Prop := fun b H' => ∃ g' I' st', LeM g g' ∧ LeH I I' ∧ T.Sim g' I' F H' st' ∧ Q b st'
def GoodC (T : Tab) (Φ : Phi) (X : Cx) (c : IO) (ifs : List Expr) : Prop := ∀ (g : Mu) (I F H : Hp) (st : Sto) (env : Mi.Env) (σ : HS) (Q : Bool → Sto → Prop), EnvRel T.K g I env σ → T.Sim g I F H st → wpO' T.P Φ c env st Q → RunTs X ifs σ H (QC T g I F Q)
theorem good_cnon : GoodC T Φ X .non [] := fun g I F H st env σ Q er S q => run_Ts pts_nil ⟨g, I, st, LeM.refl _, LeH.refl _, S, q⟩
theorem good_csom {ie : IE} {e : Expr} (h : GoodT T Φ X ie e) : GoodC T Φ X (.som ie) [e] := by
  intro g I F H st env σ Q er S q
  refine run_Ts (pts_one rT) ?_
  refine h.then_ (R := fun t _ st1 => Q t st1) er S q fun g1 I1 H1 st1 t x a1 b1 S1 er1 ht q1 => ⟨g1, I1, st1, a1, b1, S1, q1⟩

abbrev Blk (X : Cx) (scope : Scope) (s : Shared) (H : Hp) (C : Addr) (cl : List (Str × Addr)) (fp : List Addr) : Cx := X.blk s H scope (compEnvC scope cl C X.env) fp
def AllE (X : Cx) (scope : Scope) (e : Expr) : TE := fun σ H Q => ∀ (s : Shared) (H0 : Hp) (C : Addr) (cl : List (Str × Addr)) (fp : List Addr), RunE (Blk X scope s H0 C cl fp) e σ H Q
def AllTs (X : Cx) (scope : Scope) (ifs : List Expr) : TT := fun σ H Q => ∀ (s : Shared) (H0 : Hp) (C : Addr) (cl : List (Str × Addr)) (fp : List Addr), RunTs (Blk X scope s H0 C cl fp) ifs σ H Q
theorem rAllE {scope : Scope} {e : Expr} (s : Shared) (H : Hp) (C : Addr) (cl : List (Str × Addr)) (fp : List Addr) : PE (Blk X scope s H C cl fp) e (AllE X scope e) := ⟨fun pins s' σ H' Q I h => h s H C cl fp pins s' I⟩
theorem rAllTs {scope : Scope} {ifs : List Expr} (s : Shared) (H : Hp) (C : Addr) (cl : List (Str × Addr)) (fp : List Addr) : PTs (Blk X scope s H C cl fp) ifs (AllTs X scope ifs) := ⟨fun pins s' σ H' Q I h => h s H C cl fp pins s' I⟩
abbrev lcStep (P : Prog) (Φ : Phi) (elt : IE) (tg : ITg) (cond : IO) (own : List Nat) (env : Mi.Env) (x : MV) (acc : List MV) (st2 : Sto) (k : List MV → Sto → Prop) : Prop :=
  setTg tg x (wipeE env own) fun σ2 => wpO' P Φ cond σ2 st2 (fun t st3 => if t then wpE P Φ elt σ2 st3 (fun y st4 => k (acc ++ [y]) st4) (fun _ _ _ => False) else k acc st3)
theorem lc_loop {scope : Scope} {g1 : Mu} {I1 F1 H1 : Hp} {st1 : Sto} {env : Mi.Env} {σ : HS} {J : L2.It} {xs : List MV} {ok : Sto → Prop} {elt : IE} {tg : ITg} {cond : IO} {own : List Nat} {e : Expr} {ifs : List Expr} {Fin : List MV → Sto → Prop}
    (KX : X.K = T.K) (hJ : ItRel T g1 I1 F1 J xs ok) (hlen : xs.length < big) (S1 : T.Sim g1 I1 F1 H1 st1) (er : EnvRel T.K g1 I1 env σ) (hsl : ∀ i ∈ slots tg, i ∈ own)
    (hc : ∀ s H C cl fp, GoodC T Φ (Blk X scope s H C cl fp) cond ifs) (he : ∀ s H C cl fp, GoodE T Φ (Blk X scope s H C cl fp) elt e)
    (h : loop ok (lcStep T.P Φ elt tg cond own env) xs [] st1 Fin) (D : Addr) (hD : H1 D = none) :
    ∃ W : Nat → Nat → Hp → Prop, (∃ m, W 0 m (upd H1 D (.lst []))) ∧ ∀ i m H, W i m H →
      (J.stop i H ∧ HeldL T g1 I1 F1 D Fin xs.length H) ∨ (J.go i H ∧ ∃ Nx : Hp → Prop, (∀ H', Nx H' → ∃ m', m' < m ∧ W (i + 1) m' H') ∧ ∀ x H', J.yld i H x H' → tgS X.K tg x (wipe σ own) H' fun σ2 H2 => wipe σ2 own = wipe σ own ∧ AllTs X scope ifs σ2 H2 fun b H3 =>
        if b = true then AllE X scope e σ2 H3 fun y H4 => ∃ acc, H4 D = some (.lst acc) ∧ acc.length < sizeLine ∧ Nx (upd H4 D (.lst (acc ++ [y]))) else Nx H3) := by
  have leF : ∀ vs, LeH F1 (upd F1 D (.lst vs)) := fun vs => LeH.frame S1.fh hD
  refine ⟨fun i m H => m = xs.length - i ∧ i ≤ xs.length ∧ HeldL T g1 I1 F1 D (fun acc st' => loop ok (lcStep T.P Φ elt tg cond own env) (xs.drop i) acc st' Fin) i H,
    ⟨xs.length, by simp, Nat.zero_le _, g1, I1, st1, [], [], LeM.refl _, LeH.refl _, S1.frame hD, rfl, Nat.le_refl _, by simpa using h⟩, ?_⟩
  rintro i m H ⟨rfl, hi, g', I', st', acc, accV, hg, hI, S, r, hl, lp⟩
  cases hd : xs.drop i with
  | nil =>
    have hi' : xs.length ≤ i := by
      have := congrArg List.length hd
      simp at this
      omega
    rw [hd] at lp
    obtain ⟨o1, q1⟩ := lp
    exact .inl ⟨(hJ g' I' _ H st' i hg hI (leF _) S o1).1 hi', g', I', st', acc, accV, hg, hI, S, r, by omega, q1⟩
  | cons x rest =>
    obtain ⟨hx, hr, hlt⟩ := drop_cons hd
    rw [hd] at lp
    obtain ⟨o1, q1⟩ := lp
    obtain ⟨j1, j2⟩ := (hJ g' I' _ H st' i hg hI (leF _) S o1).2 x hx
    refine .inr ⟨j1, fun H' => HeldL T g1 I1 F1 D (fun acc st' => loop ok (lcStep T.P Φ elt tg cond own env) rest acc st' Fin) (i + 1) H', fun H' z => ⟨xs.length - (i + 1), by omega, rfl, hlt, by rw [hr]; exact z⟩, fun v H' y => ?_⟩
    obtain ⟨I2, le2, S2, r2⟩ := j2 v H' y
    have hI2 := hI.trans le2
    refine tg_run KX (er.wipeR own hg hI2) S2 r2 q1 fun σ2 env2 e2 q2 w2 => ⟨by rw [w2 own hsl, wipe_wipe], fun s H0 Cc cl fp => ?_⟩
    refine (hc s H0 Cc cl fp g' I2 _ H' st' env2 σ2 _ e2 S2 q2).mono fun b H3 ⟨g3, I3, st3, a3, b3, S3, q3⟩ => ?_
    have racc := r.mono (LeM.refl _) le2
    cases b with
    | false => exact ⟨g3, I3, st3, acc, accV, hg.trans a3, hI2.trans b3, S3, racc.mono a3 b3, by omega, q3⟩
    | true =>
      refine fun s H0 Cc cl fp => (he s H0 Cc cl fp g3 I3 _ H3 st3 env2 σ2 _ (e2.mono a3 b3) S3 q3).mono fun y' H4 ⟨g4, I4, ym, st4, a4, b4, S4, r4, q4⟩ => ?_
      have r5 := racc.mono (a3.trans a4) (b3.trans b4)
      refine ⟨accV, S4.fh D _ upd_same, by rw [r5.len, ← big_eq]; omega, g4, I4, st4, acc ++ [ym], accV ++ [y'], (hg.trans a3).trans a4, (hI2.trans b3).trans b4, S4.reframe lst_nofrz, r5.app (RepVs.of_one r4), ?_, q4⟩
      rw [List.length_append, List.length_singleton]
      omega
theorem held_new {g g1 : Mu} {I I1 F H : Hp} {D : Addr} {Q : Post} {n : Nat} (hg : LeM g g1) (hI : LeH I I1) (hF : F D = none) (h : HeldL T g1 I1 F D (fun acc st => Q (.ref st.length) (st ++ [.lst acc])) n H) : T.QV g I F Q (.ref D) H := by
  obtain ⟨g', I', st', acc, accV, a, b, S, r, _, q⟩ := h
  have hH := S.fh D _ upd_same
  have e : upd H D (.lst accV) = H := by
    funext z
    by_cases c : z = D
    · subst c; rw [upd_same, hH]
    · rw [upd_ne c]
  have S2 := S.adopt (u := .lst accV) (mo := .lst acc) lst_nofrz hF ⟨accV, upd_same, r.mono (gAdd_le S.no) (LeH.refl _)⟩
  rw [e] at S2
  exact ⟨_, I', .ref st'.length, _, (hg.trans a).trans (gAdd_le S.no), hI.trans b, S2, ⟨D, by unfold gAdd; rw [if_pos rfl], rfl⟩, q⟩
theorem none_of_le {F H : Hp} {D : Addr} (h : LeH F H) (hn : H D = none) : F D = none := by
  cases e : F D with
  | none => rfl
  | some o => rw [h _ _ e] at hn; cases hn
theorem folded_ok {iter : Expr} (h : (match iter with | .Set _ _ _ => false | _ => true) = true) (env : PySem.Env) (x : Value) : foldedSetIterable iter env x = pure x := by
  cases iter <;> first | rfl | exact absurd h Bool.false_ne_true
def noSet (iter : Expr) : Bool := match iter with | .Set _ _ _ => false | _ => true
/-- over anything that needs no lock -/
def Plain : II → Bool
  | .keys _ => false
  | .items _ => false
  | .vals _ => false
  | _ => true
theorem good_lc (C : COk T L X) {ii : II} {elt : IE} {tg : ITg} {cond : IO} {own : List (Str × Nat)} {e tgE iter : Expr} {ifs : List Expr} {scope : Scope} {pos : Pos} (hi : GoodI T Φ X ii tgE iter) (ok : BlkOk X.N X.env.scope scope own)
    (ht : tgM X.N (relS scope X.env.scope) (fun x => scope.names.lookup x == some .cell) tg tgE = true) (hsl : ∀ i ∈ slots tg, i ∈ own.map (·.2)) (hc : ∀ s H C cl fp, GoodC T Φ (Blk X scope s H C cl fp) cond ifs)
    (he : ∀ s H C cl fp, GoodE T Φ (Blk X scope s H C cl fp) elt e) (hs : noSet iter = true) : GoodE T Φ X (.lc elt tg ii cond (own.map (·.2))) (.ListComp e [⟨tgE, iter, ifs, 0⟩] scope pos) := by
  intro g I F H st env σ Q er S q
  refine run_E (pe_lc (g := tgS X.K tg) (tt := AllTs X scope ifs) (te := AllE X scope e) C.nd_calm C.nd rI ok (fun s H0 Cc cl fp => tg_pg (X := Blk X scope s H0 Cc cl fp) C.nd C.nd_calm ht) (fun s H0 Cc cl fp => rAllTs s H0 Cc cl fp) (fun s H0 Cc cl fp => rAllE s H0 Cc cl fp) (folded_ok hs _)) ?_
  refine (hi g I F H st env σ _ er S q).mono fun J H1 ⟨g1, I1, st1, J', a1, b1, S1, hJ, hlen, lp⟩ D hD => ?_
  obtain ⟨W, w0, w1⟩ := lc_loop (X := X) C.K hJ hlen S1 (er.mono a1 b1) hsl hc he lp D hD
  refine ⟨W, w0, fun i m H2 w => ?_⟩
  rcases w1 i m H2 w with ⟨z1, z2⟩ | z
  · exact .inl ⟨z1, held_new a1 b1 (none_of_le S1.fh hD) z2⟩
  · exact .inr z
end
end Snd
-- S17
namespace Snd
open PySem L2 Mi
section
variable {T : Tab} {Φ : Phi} {L : Nat} {X : Cx}

/-! ### over a dict: locked while it is walked -/
/-- the three walks of a dict: the items; the walk -/
def dItems (ii : II) (kvs : List (MV × MV)) : List MV := match ii with
  | .keys _ => keysOf kvs
  | .items _ => kvs.map fun kv => .tup [kv.1, kv.2]
  | .vals _ => kvs.map (·.2)
  | _ => []
def dIt (ii : II) (p : Addr) (od : Obj) (ws : List (Key × V)) : L2.It := match ii with
  | .keys _ => Itk p od ws
  | .items _ => Iti p od ws
  | _ => Itd p od ws
def NoFrz (X : Cx) (d : Addr) : Prop := ∀ (o' : Obj) (u' : HO), X.H_0 d ≠ some (.frz o' u')
/-- a value, a dict: locked as soon as it is there -/
def tLk (X : Cx) (te : TE) : TE := fun σ H Q => te σ H fun x H1 => ∃ d kvs, x = .ref d ∧ H1 d = some (.dK kvs) ∧ ∀ od, NoFrz X d → Q x (upd H1 d (.frz od (.dK kvs)))
theorem pe_lk {e : Expr} {te : TE} (he : PE X e te) : PE X e (tLk X te) := by
  refine ⟨fun pins s σ H Q I0 h => thn (he.run pins s σ H _ I0 h) fun v s1 ⟨x, H1, I1, rx, d, kvs, e1, hd, q⟩ => ?_⟩
  obtain ⟨od, I2⟩ := I1.lock hd True.intro
  exact ⟨x, _, I2, rx, q od (I1.nofrz hd True.intro)⟩
/-- .. and open again at the end -/
def UnL (X : Cx) (P : Hp → Prop) (H' : Hp) : Prop := ∃ (d : Addr) (od : Obj) (u : HO), H' d = some (.frz od u) ∧ NoFrz X d ∧ P (upd H' d u)
def tUnE (X : Cx) (t : TE) : TE := fun σ H Q => t σ H fun v H' => UnL X (Q v) H'
def tUnS (X : Cx) (t : TS) : TS := fun D σ H => t ⟨fun σ' H' => UnL X (D.nx σ') H', fun v H' => UnL X (D.rt v) H', fun σ' H' => UnL X (D.bk σ') H', fun σ' H' => UnL X (D.ct σ') H'⟩ σ H
theorem pe_unl {e : Expr} {t : TE} (h : PE X e t) : PE X e (tUnE X t) :=
  ⟨fun pins s σ H Q I0 hw => thn (h.run pins s σ H _ I0 hw) fun v s1 ⟨x, H1, I1, rx, d, od, u, e1, nf, q⟩ => ⟨x, _, I1.unlock e1 nf, rx, q⟩⟩
theorem ps_unl {s : Stmt} {t : TS} (h : PS X s t) : PS X s (tUnS X t) := by
  refine ⟨fun pins s σ H D I0 hw => thn (h.run pins s σ H _ I0 hw) fun f s1 q => ?_⟩
  cases f with
  | next => obtain ⟨σ', H', I1, d, od, u, e1, nf, q⟩ := q; exact ⟨σ', _, I1.unlock e1 nf, q⟩
  | brk => obtain ⟨σ', H', I1, d, od, u, e1, nf, q⟩ := q; exact ⟨σ', _, I1.unlock e1 nf, q⟩
  | cont => obtain ⟨σ', H', I1, d, od, u, e1, nf, q⟩ := q; exact ⟨σ', _, I1.unlock e1 nf, q⟩
  | ret v => obtain ⟨x, σ', H', I1, r, d, od, u, e1, nf, q⟩ := q; exact ⟨x, σ', _, I1.unlock e1 nf, r, q⟩
/-- before: locked -/
theorem locked_sim {g : Mu} {I F H : Hp} {st : Sto} {a : Nat} {p : Addr} {kvs : List (MV × MV)} (S : T.Sim g I F H st) (hp : g a = some p) (hs : st[a]? = some (.dic false kvs)) :
    ∃ ws, H p = some (.dK ws) ∧ F p = none ∧ ∀ od, T.Sim g I (upd F p (.frz od (.dK ws))) (upd H p (.frz od (.dK ws))) (st.set a (.dic true kvs)) := by
  obtain ⟨ws, e1, r1⟩ := S.at_ hp hs
  exact ⟨ws, e1, (S.open_ hp e1 fun _ _ z => nomatch z), fun od => S.lock hp r1 od⟩
/-- the walk of a dict -/
def QD (T : Tab) (X : Cx) (ii : II) (g : Mu) (I F : Hp) (R : Mi.It → Sto → (Sto → (Sto → Prop) → Prop) → Prop) (J : L2.It) (H' : Hp) : Prop :=
  ∃ g1 I1 st1 a p kvs ws od, LeM g g1 ∧ LeH I I1 ∧ g1 a = some p ∧ F p = none ∧ NoFrz X p ∧ T.Sim g1 I1 (upd F p (.frz od (.dK ws))) H' st1 ∧ J = dIt ii p od ws ∧ R ⟨dItems ii kvs, fun st' => st'[a]? = some (.dic true kvs)⟩ st1 fun st3 k => unlock a kvs st3 k
def DictI (T : Tab) (Φ : Phi) (X : Cx) (ii : II) (tg iter : Expr) : Prop := ∀ (g : Mu) (I F H : Hp) (st : Sto) (env : Mi.Env) (σ : HS) (R : Mi.It → Sto → (Sto → (Sto → Prop) → Prop) → Prop), EnvRel T.K g I env σ → T.Sim g I F H st →
  wpI T.P Φ ii env st R NoX → RunI X tg iter σ H (QD T X ii g I F R)
theorem dict_keys {ie : IE} {tg e : Expr} (h : GoodE T Φ X ie e) : DictI T Φ X (.keys ie) tg e := by
  intro g I F H st env σ R er S q
  refine run_I (pi_keys (pe_lk rE)) ?_
  refine h.then_ er S q fun g1 I1 H1 st1 x v a1 b1 S1 er1 r1 q1 => ?_
  obtain ⟨a, kvs, rfl, hs, q1⟩ := q1
  obtain ⟨p, hp, rfl⟩ := r1
  obtain ⟨ws, e1, hf, SL⟩ := locked_sim S1 hp hs
  exact ⟨p, ws, rfl, e1, fun od nf => ⟨p, od, rfl, .inl ⟨ws, upd_same, g1, I1, _, a, p, kvs, ws, od, a1, b1, hp, hf, nf, SL od, rfl, q1⟩⟩⟩
theorem dict_items {ie : IE} {es : List Expr} {k : Nat} {e : Expr} {tpos apos cpos : Pos} (h : GoodE T Φ X ie e) (hb : okBase e = true) (hl : (apos.endLine == cpos.line) = true) :
    DictI T Φ X (.items ie) (.Tuple es k tpos) (.Call (.Attribute e (Str.ofString "items") apos) [] [] cpos) := by
  intro g I F H st env σ R er S q
  refine run_I (pi_items (pe_lk rE) (base_ok hb) hl) ?_
  refine h.then_ er S q fun g1 I1 H1 st1 x v a1 b1 S1 er1 r1 q1 => ?_
  obtain ⟨a, kvs, rfl, hs, q1⟩ := q1
  obtain ⟨p, hp, rfl⟩ := r1
  obtain ⟨ws, e1, hf, SL⟩ := locked_sim S1 hp hs
  exact ⟨p, ws, rfl, e1, fun od nf => ⟨p, od, ws, rfl, upd_same, g1, I1, _, a, p, kvs, ws, od, a1, b1, hp, hf, nf, SL od, rfl, q1⟩⟩
theorem dict_vals {ie : IE} {tg e : Expr} {apos cpos : Pos} (h : GoodE T Φ X ie e) (hb : okBase e = true) (hl : (apos.endLine == cpos.line) = true) :
    DictI T Φ X (.vals ie) tg (.Call (.Attribute e (Str.ofString "values") apos) [] [] cpos) := by
  intro g I F H st env σ R er S q
  refine run_I (pi_values (pe_lk rE) (base_ok hb) hl) ?_
  refine h.then_ er S q fun g1 I1 H1 st1 x v a1 b1 S1 er1 r1 q1 => ?_
  obtain ⟨a, kvs, rfl, hs, q1⟩ := q1
  obtain ⟨p, hp, rfl⟩ := r1
  obtain ⟨ws, e1, hf, SL⟩ := locked_sim S1 hp hs
  exact ⟨p, ws, rfl, e1, fun od nf => ⟨p, od, ws, rfl, upd_same, g1, I1, _, a, p, kvs, ws, od, a1, b1, hp, hf, nf, SL od, rfl, q1⟩⟩
def isDW (ii : II) : Prop := ∃ e, ii = .keys e ∨ ii = .items e ∨ ii = .vals e
theorem dIt_rel {g : Mu} {I F : Hp} {p : Addr} {a : Nat} {kvs : List (MV × MV)} {od : Obj} {ws : List (Key × V)} {ii : II} (hd : isDW ii) (hp : g a = some p) : ItRel T g I (upd F p (.frz od (.dK ws))) (dIt ii p od ws) (dItems ii kvs) fun st' => st'[a]? = some (.dic true kvs) := by
  obtain ⟨e, rfl | rfl | rfl⟩ := hd
  · exact it_keys hp
  · exact it_items hp
  · exact it_vals hp
theorem upd_comm {H : Hp} {p q : Addr} {u v : HO} (h : p ≠ q) : upd (upd H p u) q v = upd (upd H q v) p u := by
  funext z
  by_cases a : z = q
  · subst a
    rw [upd_same, upd_ne (Ne.symm h), upd_same]
  · rw [upd_ne a]
    by_cases b : z = p
    · subst b; rw [upd_same, upd_same]
    · rw [upd_ne b, upd_ne b, upd_ne a]
theorem held_unlock {g1 : Mu} {I1 F H : Hp} {D p : Addr} {a n : Nat} {kvs : List (MV × MV)} {ws : List (Key × V)} {od : Obj} {P : List MV → Sto → Prop} (hg : g1 a = some p) (hf : F p = none) (hD : D ≠ p)
    (h : HeldL T g1 I1 (upd F p (.frz od (.dK ws))) D (fun acc st => unlock a kvs st fun st' => P acc st') n H) : H p = some (.frz od (.dK ws)) ∧ HeldL T g1 I1 F D P n (upd H p (.dK ws)) := by
  obtain ⟨g', I', st', acc, accV, a1, b1, S, r, hl, hs, q⟩ := h
  have e1 := S.fh p (.frz od (.dK ws)) (by rw [upd_ne (Ne.symm hD), upd_same])
  rw [upd_comm (Ne.symm hD)] at S
  have S2 := S.unlock (by rw [upd_ne (Ne.symm hD)]; exact hf) (a1 _ _ hg) hs
  exact ⟨e1, g', I', _, acc, accV, a1, b1, S2, r, hl, q⟩
theorem apart {F H : Hp} {D p : Addr} {u : HO} (S : LeH (upd F p u) H) (hD : H D = none) : D ≠ p ∧ F D = none := by
  have ne : D ≠ p := fun z => by
    subst z
    have := S D u upd_same
    rw [hD] at this
    cases this
  have := none_of_le S hD
  rw [upd_ne ne] at this
  exact ⟨ne, this⟩
theorem lc_goalD (C : COk T L X) {ii : II} {elt : IE} {tg : ITg} {cond : IO} {own : List (Str × Nat)} {e tgE iter : Expr} {ifs : List Expr} {scope : Scope} {g : Mu} {I F H : Hp} {st : Sto} {env : Mi.Env} {σ : HS} {Q : Post} (hd : isDW ii) (hi : DictI T Φ X ii tgE iter) (hsl : ∀ i ∈ slots tg, i ∈ own.map (·.2))
    (hc : ∀ s H C cl fp, GoodC T Φ (Blk X scope s H C cl fp) cond ifs) (he : ∀ s H C cl fp, GoodE T Φ (Blk X scope s H C cl fp) elt e) (er : EnvRel T.K g I env σ) (S : T.Sim g I F H st) (q : wpE T.P Φ (.lc elt tg ii cond (own.map (·.2))) env st Q NoX) :
    tLc (RunI X tgE iter) (tgS X.K tg) (AllTs X scope ifs) (AllE X scope e) (own.map (·.2)) σ H (fun v H' => UnL X (T.QV g I F Q v) H') := by
  refine (hi g I F H st env σ _ er S q).mono fun J H1 ⟨g1, I1, st1, a, p, kvs, ws, od, a1, b1, hp, hf, nf, S1, e3, hlen, lp⟩ D hD => ?_
  subst e3
  obtain ⟨ne, hF⟩ := apart S1.fh hD
  obtain ⟨W, w0, w1⟩ := lc_loop (X := X) C.K (dIt_rel hd hp) hlen S1 (er.mono a1 b1) hsl hc he lp D hD
  refine ⟨W, w0, fun i m H2 w => ?_⟩
  rcases w1 i m H2 w with ⟨z1, z2⟩ | z
  · obtain ⟨z3, z4⟩ := held_unlock (P := fun acc st6 => Q (.ref st6.length) (st6 ++ [.lst acc])) hp hf ne z2
    exact .inl ⟨z1, p, od, .dK ws, z3, nf, held_new a1 b1 hF z4⟩
  · exact .inr z
theorem good_lcD (C : COk T L X) {ii : II} {elt : IE} {tg : ITg} {cond : IO} {own : List (Str × Nat)} {e tgE iter : Expr} {ifs : List Expr} {scope : Scope} {pos : Pos} (hd : isDW ii) (hi : DictI T Φ X ii tgE iter) (ok : BlkOk X.N X.env.scope scope own)
    (ht : tgM X.N (relS scope X.env.scope) (fun x => scope.names.lookup x == some .cell) tg tgE = true) (hsl : ∀ i ∈ slots tg, i ∈ own.map (·.2)) (hc : ∀ s H C cl fp, GoodC T Φ (Blk X scope s H C cl fp) cond ifs)
    (he : ∀ s H C cl fp, GoodE T Φ (Blk X scope s H C cl fp) elt e) (hs : noSet iter = true) : GoodE T Φ X (.lc elt tg ii cond (own.map (·.2))) (.ListComp e [⟨tgE, iter, ifs, 0⟩] scope pos) := by
  intro g I F H st env σ Q er S q
  refine run_E (pe_unl (pe_lc (g := tgS X.K tg) (tt := AllTs X scope ifs) (te := AllE X scope e) C.nd_calm C.nd rI ok (fun s H0 Cc cl fp => tg_pg (X := Blk X scope s H0 Cc cl fp) C.nd C.nd_calm ht) (fun s H0 Cc cl fp => rAllTs s H0 Cc cl fp) (fun s H0 Cc cl fp => rAllE s H0 Cc cl fp) (folded_ok hs _))) ?_
  exact lc_goalD C hd hi hsl hc he er S q

/-! ### dicts made -/
def HeldD (T : Tab) (g1 : Mu) (I1 F1 : Hp) (D : Addr) (P : List (MV × MV) → Sto → Prop) (n : Nat) (H' : Hp) : Prop :=
  ∃ g' I' st' acc accV, LeM g1 g' ∧ LeH I1 I' ∧ T.Sim g' I' (upd F1 D (.dK accV)) H' st' ∧ RepKV T.K g' I' acc accV ∧ acc.length ≤ n ∧ P acc st'
theorem kPut_len (k v : MV) (kvs : List (MV × MV)) : (kPut k v kvs).length ≤ kvs.length + 1 := by
  unfold kPut
  split <;> simp
abbrev dcStep (P : Prog) (Φ : Phi) (ke ve : IE) (tg : ITg) (own : List Nat) (env : Mi.Env) (x : MV) (acc : List (MV × MV)) (st2 : Sto) (k : List (MV × MV) → Sto → Prop) : Prop :=
  setTg tg x (wipeE env own) fun σ2 => wpE P Φ ke σ2 st2 (fun kv st3 => isKey kv = true ∧ wpE P Φ ve σ2 st3 (fun y st4 => k (kPut kv y acc) st4) (fun _ _ _ => False)) (fun _ _ _ => False)
theorem dc_loop {scope : Scope} {g1 : Mu} {I1 F1 H1 : Hp} {st1 : Sto} {env : Mi.Env} {σ : HS} {J : L2.It} {xs : List MV} {ok : Sto → Prop} {ke ve : IE} {tg : ITg} {own : List Nat} {ek ev : Expr} {Fin : List (MV × MV) → Sto → Prop}
    (KX : X.K = T.K) (hJ : ItRel T g1 I1 F1 J xs ok) (hlen : xs.length < big) (S1 : T.Sim g1 I1 F1 H1 st1) (er : EnvRel T.K g1 I1 env σ) (hsl : ∀ i ∈ slots tg, i ∈ own)
    (hk : ∀ s H C cl fp, GoodE T Φ (Blk X scope s H C cl fp) ke ek) (he : ∀ s H C cl fp, GoodE T Φ (Blk X scope s H C cl fp) ve ev)
    (h : loop ok (dcStep T.P Φ ke ve tg own env) xs [] st1 Fin) (D : Addr) (hD : H1 D = none) :
    ∃ W : Nat → Nat → Hp → Prop, (∃ m, W 0 m (upd H1 D (.dK []))) ∧ ∀ i m H, W i m H →
      (J.stop i H ∧ HeldD T g1 I1 F1 D Fin xs.length H) ∨ (J.go i H ∧ ∃ Nx : Hp → Prop, (∀ H', Nx H' → ∃ m', m' < m ∧ W (i + 1) m' H') ∧ ∀ x H', J.yld i H x H' → tgS X.K tg x (wipe σ own) H' fun σ2 H2 => wipe σ2 own = wipe σ own ∧ tYes σ2 H2 fun b H3 =>
        if b = true then AllE X scope ek σ2 H3 fun y H4 => AllE X scope ev σ2 H4 fun z H5 => ∃ kvs k, y = kV k ∧ H5 D = some (.dK kvs) ∧ kvs.length < sizeLine ∧ Nx (upd H5 D (.dK (putK kvs k z))) else Nx H3) := by
  have leF : ∀ vs, LeH F1 (upd F1 D (.dK vs)) := fun vs => LeH.frame S1.fh hD
  refine ⟨fun i m H => m = xs.length - i ∧ i ≤ xs.length ∧ HeldD T g1 I1 F1 D (fun acc st' => loop ok (dcStep T.P Φ ke ve tg own env) (xs.drop i) acc st' Fin) i H,
    ⟨xs.length, by simp, Nat.zero_le _, g1, I1, st1, [], [], LeM.refl _, LeH.refl _, S1.frame hD, .nil, Nat.le_refl _, by simpa using h⟩, ?_⟩
  rintro i m H ⟨rfl, hi, g', I', st', acc, accV, hg, hI, S, r, hl, lp⟩
  cases hd : xs.drop i with
  | nil =>
    have hi' : xs.length ≤ i := by
      have := congrArg List.length hd
      simp at this
      omega
    rw [hd] at lp
    obtain ⟨o1, q1⟩ := lp
    exact .inl ⟨(hJ g' I' _ H st' i hg hI (leF _) S o1).1 hi', g', I', st', acc, accV, hg, hI, S, r, by omega, q1⟩
  | cons x rest =>
    obtain ⟨hx, hr, hlt⟩ := drop_cons hd
    rw [hd] at lp
    obtain ⟨o1, q1⟩ := lp
    obtain ⟨j1, j2⟩ := (hJ g' I' _ H st' i hg hI (leF _) S o1).2 x hx
    refine .inr ⟨j1, fun H' => HeldD T g1 I1 F1 D (fun acc st' => loop ok (dcStep T.P Φ ke ve tg own env) rest acc st' Fin) (i + 1) H', fun H' z => ⟨xs.length - (i + 1), by omega, rfl, hlt, by rw [hr]; exact z⟩, fun v H' y => ?_⟩
    obtain ⟨I2, le2, S2, r2⟩ := j2 v H' y
    have hI2 := hI.trans le2
    refine tg_run KX (er.wipeR own hg hI2) S2 r2 q1 fun σ2 env2 e2 q2 w2 => ⟨by rw [w2 own hsl, wipe_wipe], fun s H0 Cc cl fp => ?_⟩
    have racc := r.mono (LeM.refl _) le2
    refine (hk s H0 Cc cl fp g' I2 _ H' st' env2 σ2 _ e2 S2 q2).mono fun kw H3 ⟨g3, I3, km, st3, a3, b3, S3, r3, q3⟩ => ?_
    obtain ⟨ky, q3⟩ := q3
    obtain ⟨k', ek', rfl⟩ := keyV_of ky r3
    refine fun s H0 Cc cl fp => (he s H0 Cc cl fp g3 I3 _ H3 st3 env2 σ2 _ (e2.mono a3 b3) S3 q3).mono fun y' H4 ⟨g4, I4, ym, st4, a4, b4, S4, r4, q4⟩ => ?_
    have r5 := racc.mono (a3.trans a4) (b3.trans b4)
    refine ⟨accV, k', rfl, S4.fh D _ upd_same, by rw [r5.len, ← big_eq]; omega, g4, I4, st4, kPut km ym acc, putK accV k' y', (hg.trans a3).trans a4, (hI2.trans b3).trans b4, S4.reframe dK_nofrz, r5.put ek' r4, ?_, q4⟩
    have := kPut_len km ym acc
    omega
theorem heldD_new {g g1 : Mu} {I I1 F H : Hp} {D : Addr} {Q : Post} {n : Nat} (hg : LeM g g1) (hI : LeH I I1) (hF : F D = none) (h : HeldD T g1 I1 F D (fun acc st => Q (.ref st.length) (st ++ [.dic false acc])) n H) : T.QV g I F Q (.ref D) H := by
  obtain ⟨g', I', st', acc, accV, a, b, S, r, _, q⟩ := h
  have hH := S.fh D _ upd_same
  have e : upd H D (.dK accV) = H := by
    funext z
    by_cases c : z = D
    · subst c; rw [upd_same, hH]
    · rw [upd_ne c]
  have S2 := S.adopt (u := .dK accV) (mo := .dic false acc) dK_nofrz hF ⟨accV, upd_same, r.mono (gAdd_le S.no) (LeH.refl _)⟩
  rw [e] at S2
  exact ⟨_, I', .ref st'.length, _, (hg.trans a).trans (gAdd_le S.no), hI.trans b, S2, ⟨D, by unfold gAdd; rw [if_pos rfl], rfl⟩, q⟩
theorem heldD_unlock {g1 : Mu} {I1 F H : Hp} {D p : Addr} {a n : Nat} {kvs : List (MV × MV)} {ws : List (Key × V)} {od : Obj} {P : List (MV × MV) → Sto → Prop} (hg : g1 a = some p) (hf : F p = none) (hD : D ≠ p)
    (h : HeldD T g1 I1 (upd F p (.frz od (.dK ws))) D (fun acc st => unlock a kvs st fun st' => P acc st') n H) : H p = some (.frz od (.dK ws)) ∧ HeldD T g1 I1 F D P n (upd H p (.dK ws)) := by
  obtain ⟨g', I', st', acc, accV, a1, b1, S, r, hl, hs, q⟩ := h
  have e1 := S.fh p (.frz od (.dK ws)) (by rw [upd_ne (Ne.symm hD), upd_same])
  rw [upd_comm (Ne.symm hD)] at S
  have S2 := S.unlock (by rw [upd_ne (Ne.symm hD)]; exact hf) (a1 _ _ hg) hs
  exact ⟨e1, g', I', _, acc, accV, a1, b1, S2, r, hl, q⟩
theorem good_dc (C : COk T L X) {ii : II} {ke ve : IE} {tg : ITg} {own : List (Str × Nat)} {ek ev tgE iter : Expr} {scope : Scope} {pos : Pos} (hi : GoodI T Φ X ii tgE iter) (ok : BlkOk X.N X.env.scope scope own)
    (ht : tgM X.N (relS scope X.env.scope) (fun x => scope.names.lookup x == some .cell) tg tgE = true) (hsl : ∀ i ∈ slots tg, i ∈ own.map (·.2)) (hk : ∀ s H C cl fp, GoodE T Φ (Blk X scope s H C cl fp) ke ek)
    (he : ∀ s H C cl fp, GoodE T Φ (Blk X scope s H C cl fp) ve ev) (hs : noSet iter = true) : GoodE T Φ X (.dc ke ve tg ii (own.map (·.2))) (.DictComp ek ev [⟨tgE, iter, [], 0⟩] scope pos) := by
  intro g I F H st env σ Q er S q
  refine run_E (pe_dc (g := tgS X.K tg) (tt := tYes) (tk := AllE X scope ek) (tv := AllE X scope ev) C.nd_calm C.nd rI ok (fun s H0 Cc cl fp => tg_pg (X := Blk X scope s H0 Cc cl fp) C.nd C.nd_calm ht) (fun s H0 Cc cl fp => pts_nil) (fun s H0 Cc cl fp => rAllE s H0 Cc cl fp) (fun s H0 Cc cl fp => rAllE s H0 Cc cl fp) (folded_ok hs _)) ?_
  refine (hi g I F H st env σ _ er S q).mono fun J H1 ⟨g1, I1, st1, J', a1, b1, S1, hJ, hlen, lp⟩ D hD => ?_
  obtain ⟨W, w0, w1⟩ := dc_loop (X := X) C.K hJ hlen S1 (er.mono a1 b1) hsl hk he lp D hD
  refine ⟨W, w0, fun i m H2 w => ?_⟩
  rcases w1 i m H2 w with ⟨z1, z2⟩ | z
  · exact .inl ⟨z1, heldD_new a1 b1 (none_of_le S1.fh hD) z2⟩
  · exact .inr z
theorem dc_goalD (C : COk T L X) {ii : II} {ke ve : IE} {tg : ITg} {own : List (Str × Nat)} {ek ev tgE iter : Expr} {scope : Scope} {g : Mu} {I F H : Hp} {st : Sto} {env : Mi.Env} {σ : HS} {Q : Post} (hd : isDW ii) (hi : DictI T Φ X ii tgE iter) (hsl : ∀ i ∈ slots tg, i ∈ own.map (·.2))
    (hk : ∀ s H C cl fp, GoodE T Φ (Blk X scope s H C cl fp) ke ek) (he : ∀ s H C cl fp, GoodE T Φ (Blk X scope s H C cl fp) ve ev) (er : EnvRel T.K g I env σ) (S : T.Sim g I F H st) (q : wpE T.P Φ (.dc ke ve tg ii (own.map (·.2))) env st Q NoX) :
    tDc (RunI X tgE iter) (tgS X.K tg) tYes (AllE X scope ek) (AllE X scope ev) (own.map (·.2)) σ H (fun v H' => UnL X (T.QV g I F Q v) H') := by
  refine (hi g I F H st env σ _ er S q).mono fun J H1 ⟨g1, I1, st1, a, p, kvs, ws, od, a1, b1, hp, hf, nf, S1, e3, hlen, lp⟩ D hD => ?_
  subst e3
  obtain ⟨ne, hF⟩ := apart S1.fh hD
  obtain ⟨W, w0, w1⟩ := dc_loop (X := X) C.K (dIt_rel hd hp) hlen S1 (er.mono a1 b1) hsl hk he lp D hD
  refine ⟨W, w0, fun i m H2 w => ?_⟩
  rcases w1 i m H2 w with ⟨z1, z2⟩ | z
  · obtain ⟨z3, z4⟩ := heldD_unlock (P := fun acc st6 => Q (.ref st6.length) (st6 ++ [.dic false acc])) hp hf ne z2
    exact .inl ⟨z1, p, od, .dK ws, z3, nf, heldD_new a1 b1 hF z4⟩
  · exact .inr z
theorem good_dcD (C : COk T L X) {ii : II} {ke ve : IE} {tg : ITg} {own : List (Str × Nat)} {ek ev tgE iter : Expr} {scope : Scope} {pos : Pos} (hd : isDW ii) (hi : DictI T Φ X ii tgE iter) (ok : BlkOk X.N X.env.scope scope own)
    (ht : tgM X.N (relS scope X.env.scope) (fun x => scope.names.lookup x == some .cell) tg tgE = true) (hsl : ∀ i ∈ slots tg, i ∈ own.map (·.2)) (hk : ∀ s H C cl fp, GoodE T Φ (Blk X scope s H C cl fp) ke ek)
    (he : ∀ s H C cl fp, GoodE T Φ (Blk X scope s H C cl fp) ve ev) (hs : noSet iter = true) : GoodE T Φ X (.dc ke ve tg ii (own.map (·.2))) (.DictComp ek ev [⟨tgE, iter, [], 0⟩] scope pos) := by
  intro g I F H st env σ Q er S q
  refine run_E (pe_unl (pe_dc (g := tgS X.K tg) (tt := tYes) (tk := AllE X scope ek) (tv := AllE X scope ev) C.nd_calm C.nd rI ok (fun s H0 Cc cl fp => tg_pg (X := Blk X scope s H0 Cc cl fp) C.nd C.nd_calm ht) (fun s H0 Cc cl fp => pts_nil) (fun s H0 Cc cl fp => rAllE s H0 Cc cl fp) (fun s H0 Cc cl fp => rAllE s H0 Cc cl fp) (folded_ok hs _))) ?_
  exact dc_goalD C hd hi hsl hk he er S q
end
end Snd
-- S18
namespace Snd
open PySem L2 Mi
section
variable {T : Tab} {Φ : Phi} {L : Nat} {X : Cx}

/-! ### ends -/
def QS (T : Tab) (g : Mu) (I F : Hp) (P : Mi.Env → Sto → Prop) : HS → Hp → Prop := fun σ' H' => ∃ g' I' env' st', LeM g g' ∧ LeH I I' ∧ T.Sim g' I' F H' st' ∧ EnvRel T.K g' I' env' σ' ∧ P env' st'
theorem QS.from_ {g g1 : Mu} {I I1 F : Hp} {P : Mi.Env → Sto → Prop} {σ : HS} {H : Hp} (hg : LeM g g1) (hI : LeH I I1) (h : QS T g1 I1 F P σ H) : QS T g I F P σ H := by
  obtain ⟨g', I', e, st', a, b, c⟩ := h
  exact ⟨g', I', e, st', hg.trans a, hI.trans b, c⟩
def EndR (T : Tab) (g : Mu) (I F : Hp) (D : Mi.Ends) : L2.Ends where
  nx := QS T g I F D.nx
  rt := T.QV g I F D.rt
  bk := QS T g I F D.bk
  ct := QS T g I F D.ct
structure EndLe (D D' : L2.Ends) : Prop where
  nx : ∀ σ H, D.nx σ H → D'.nx σ H
  rt : ∀ v H, D.rt v H → D'.rt v H
  bk : ∀ σ H, D.bk σ H → D'.bk σ H
  ct : ∀ σ H, D.ct σ H → D'.ct σ H
theorem SP.le {pins : List (Addr × Obj)} {D D' : L2.Ends} (l : EndLe D D') {f : Flow} {s : Shared} (h : SP X pins D f s) : SP X pins D' f s := by
  cases f with
  | next => obtain ⟨σ, H, I, q⟩ := h; exact ⟨σ, H, I, l.nx _ _ q⟩
  | brk => obtain ⟨σ, H, I, q⟩ := h; exact ⟨σ, H, I, l.bk _ _ q⟩
  | cont => obtain ⟨σ, H, I, q⟩ := h; exact ⟨σ, H, I, l.ct _ _ q⟩
  | ret u => obtain ⟨v, σ, H, I, r, q⟩ := h; exact ⟨v, σ, H, I, r, l.rt _ _ q⟩
theorem RunS.le {st : Stmt} {D D' : L2.Ends} {σ : HS} {H : Hp} (h : RunS X st D σ H) (l : EndLe D D') : RunS X st D' σ H := fun pins s I => thn (h pins s I) fun _ _ q => SP.le l q
theorem RunSs.le {st : List Stmt} {D D' : L2.Ends} {σ : HS} {H : Hp} (h : RunSs X st D σ H) (l : EndLe D D') : RunSs X st D' σ H := fun pins s I => thn (h pins s I) fun _ _ q => SP.le l q
theorem EndLe.from_ {g g1 : Mu} {I I1 F : Hp} {D : Mi.Ends} (hg : LeM g g1) (hI : LeH I I1) : EndLe (EndR T g1 I1 F D) (EndR T g I F D) :=
  ⟨fun _ _ h => QS.from_ hg hI h, fun _ _ h => QV.from_ hg hI h, fun _ _ h => QS.from_ hg hI h, fun _ _ h => QS.from_ hg hI h⟩
def NoEx (D : Mi.Ends) : Prop := ∀ c v σ st, ¬ D.ex c v σ st
theorem noex {D : Mi.Ends} (h : NoEx D) (σ : Mi.Env) : (fun c v st' => D.ex c v σ st') = NoX := by
  funext c v st'
  exact propext ⟨h c v σ st', False.elim⟩
def GoodS (T : Tab) (Φ : Phi) (X : Cx) (is : IS) (s : Stmt) : Prop := ∀ (g : Mu) (I F H : Hp) (st : Sto) (env : Mi.Env) (σ : HS) (D : Mi.Ends), NoEx D → EnvRel T.K g I env σ → T.Sim g I F H st → wpS T.P Φ is D env st → RunS X s (EndR T g I F D) σ H
def GoodSs (T : Tab) (Φ : Phi) (X : Cx) (is : List IS) (s : List Stmt) : Prop := ∀ (g : Mu) (I F H : Hp) (st : Sto) (env : Mi.Env) (σ : HS) (D : Mi.Ends), NoEx D → EnvRel T.K g I env σ → T.Sim g I F H st → wpSs T.P Φ is D env st → RunSs X s (EndR T g I F D) σ H

/-! ### statements -/
theorem good_nil : GoodSs T Φ X [] [] := fun g I F H st env σ D hD er S q => run_Ss pss_nil ⟨g, I, env, st, LeM.refl _, LeH.refl _, S, er, q⟩
theorem good_cons {i : IS} {is : List IS} {s : Stmt} {ss : List Stmt} (h1 : GoodS T Φ X i s) (h2 : GoodSs T Φ X is ss) : GoodSs T Φ X (i :: is) (s :: ss) := by
  intro g I F H st env σ D hD er S q
  refine run_Ss (pss_cons rS rSs) ?_
  refine (h1 g I F H st env σ { D with nx := fun σ1 st1 => wpSs T.P Φ is D σ1 st1 } hD er S q).le ⟨fun σ' H' ⟨g', I', e', st', a, b, S', er', q'⟩ => ?_, fun _ _ h => h, fun _ _ h => h, fun _ _ h => h⟩
  exact (h2 g' I' F H' st' e' σ' D hD er' S' q').le (EndLe.from_ a b)
theorem good_bad {s : Stmt} : GoodS T Φ X .bad s := fun g I F H st env σ D hD er S q => (show False from q).elim
theorem good_pass {p : Pos} : GoodS T Φ X .pass (.Pass p) := fun g I F H st env σ D hD er S q => run_S ps_pass ⟨g, I, env, st, LeM.refl _, LeH.refl _, S, er, q⟩
theorem good_brk {p : Pos} : GoodS T Φ X .brk (.Break p) := fun g I F H st env σ D hD er S q => run_S ps_break ⟨g, I, env, st, LeM.refl _, LeH.refl _, S, er, q⟩
theorem good_cont {p : Pos} : GoodS T Φ X .cont (.Continue p) := fun g I F H st env σ D hD er S q => run_S ps_continue ⟨g, I, env, st, LeM.refl _, LeH.refl _, S, er, q⟩
theorem good_retN {p : Pos} : GoodS T Φ X .retN (.Return none p) := fun g I F H st env σ D hD er S q => run_S ps_retN (QV.non S q)
theorem good_ret {ie : IE} {e : Expr} {p : Pos} (h : GoodE T Φ X ie e) : GoodS T Φ X (.ret ie) (.Return (some e) p) := by
  intro g I F H st env σ D hD er S q
  have q : wpE T.P Φ ie env st D.rt (fun c v st' => D.ex c v env st') := q
  rw [noex hD] at q
  exact run_S (ps_ret rE) (h g I F H st env σ _ er S q)
def noComp : Expr → Bool
  | .ListComp _ _ _ _ => false
  | .SetComp _ _ _ _ => false
  | .DictComp _ _ _ _ _ => false
  | _ => true
theorem swaps_no {e : Expr} (h : noComp e = true) (tg : Option Expr) (n : Nat) (env : PySem.Env) : swapsWith e tg n env = pure false := by
  cases e <;> first | rfl | exact absurd h Bool.false_ne_true
theorem sole_tup {e : Expr} {es : List Expr} {k : Nat} {p : Pos} (n : Nat) (env : PySem.Env) : swapsWithSole [.Tuple es k p] e n env = pure false := by cases e <;> rfl
theorem sole_sub {e x y : Expr} {p : Pos} (n : Nat) (env : PySem.Env) : swapsWithSole [.Subscript x y p] e n env = pure false := by cases e <;> rfl
theorem good_expr {ie : IE} {e : Expr} {p : Pos} (h : GoodE T Φ X ie e) (hn : noComp e = true) : GoodS T Φ X (.expr ie) (.Expr e p) := by
  intro g I F H st env σ D hD er S q
  have q : wpE T.P Φ ie env st (fun _ st1 => D.nx env st1) (fun c v st' => D.ex c v env st') := q
  rw [noex hD] at q
  refine run_S (ps_expr rE (swaps_no hn _ _ _)) ?_
  exact h.then_ er S q fun g1 I1 H1 st1 y v a1 b1 S1 er1 r1 q1 => ⟨g1, I1, env, st1, a1, b1, S1, er1, q1⟩
theorem good_set (C : COk T L X) {i : Nat} {x : Str} {ie : IE} {e : Expr} {p pos : Pos} (hi : X.N[i]? = some x) (hl : isLoc X.env.scope X.fn x = true) (h : GoodE T Φ X ie e) (hn : swapsWith e (some (.Name x p)) pos.line X.env = pure false) :
    GoodS T Φ X (.asg (.name i) ie) (.Assign [.Name x p] e pos) := by
  intro g I F H st env σ D hD er S q
  have q : wpE T.P Φ ie env st (fun v st1 => D.nx (env.set i (some v)) st1) (fun c v st' => D.ex c v env st') := q
  rw [noex hD] at q
  obtain ⟨h1, h2⟩ := isLoc_ok hl
  refine run_S (ps_set C.nd hi h1 rE hn h2) ?_
  exact h.then_ er S q fun g1 I1 H1 st1 y v a1 b1 S1 er1 r1 q1 => ⟨g1, I1, _, st1, a1, b1, S1, er1.set i r1, q1⟩
theorem swapped_tup {es : List Expr} {k : Nat} {p : Pos} {e : Expr} (env : PySem.Env) (h : (match e with | .Tuple _ _ _ => false | _ => true) = true) : swappedStores [.Tuple es k p] e env = pure none := by
  cases e <;> first | rfl | exact absurd h Bool.false_ne_true
def noTup (e : Expr) : Bool := match e with | .Tuple _ _ _ => false | _ => true
theorem good_tupS (C : COk T L X) {ns : List Nat} {es : List Expr} {ie : IE} {e : Expr} {k : Nat} {p pos : Pos} (ht : tgM X.N X.env.scope X.fn (.tup ns) (.Tuple es k p) = true) (h : GoodE T Φ X ie e) (hw : swappedStores [.Tuple es k p] e X.env = pure none) :
    GoodS T Φ X (.asg (.tup ns) ie) (.Assign [.Tuple es k p] e pos) := by
  intro g I F H st env σ D hD er S q
  have q : wpE T.P Φ ie env st (fun v st1 => setTgS (.tup ns) v env st1 fun σ1 => D.nx σ1 st1) (fun c v st' => D.ex c v env st') := q
  rw [noex hD] at q
  refine run_S (ps_asg rE (PG.or (tg_pg C.nd C.nd_calm ht) (tg_pgU C.nd C.nd_calm ht)) (sole_tup _ _) hw rfl) ?_
  refine h.then_ er S q fun g1 I1 H1 st1 y v a1 b1 S1 er1 r1 q1 => ?_
  exact tgS_run C.K er1 S1 r1 q1 fun σ2 env2 e2 q2 => ⟨g1, I1, env2, st1, a1, b1, S1, e2, q2⟩
theorem good_par2 (C : COk T L X) {i j : Nat} {x y : Str} {es : IA} {a b : Expr} {px py pt pt2 pos : Pos} {kt k2 : Nat} (hi : X.N[i]? = some x) (hj : X.N[j]? = some y) (hij : i ≠ j)
    (hx : X.env.scope.names.lookup x = some .local) (hy : X.env.scope.names.lookup y = some .local) (h : GoodA T Φ X es [a, b]) (hw : swappedStores [.Tuple [.Name x px, .Name y py] kt pt] (.Tuple [a, b] k2 pt2) X.env = pure (some [x, y])) :
    GoodS T Φ X (.par [i, j] es) (.Assign [.Tuple [.Name x px, .Name y py] kt pt] (.Tuple [a, b] k2 pt2) pos) := by
  intro g I F H st env σ D hD er S q
  have q : wpA T.P Φ es env st (fun vs st1 => vs.length = 2 ∧ D.nx (([i, j].zip vs).foldl (fun s p => s.set p.1 (some p.2)) env) st1) (fun c v st' => D.ex c v env st') := q
  rw [noex hD] at q
  refine run_S (ps_par C.nd_calm C.nd hi hj hij hx hy rA hw rfl) ?_
  refine h.then_ er S q fun g1 I1 H1 st1 ys vs a1 b1 S1 er1 r1 q1 => ?_
  obtain ⟨hl, q1⟩ := q1
  match ys, hl with
  | [u, v], _ =>
    obtain ⟨v1, v2, rfl, r2, r3⟩ := r1.two
    exact ⟨v1, v2, rfl, g1, I1, _, st1, a1, b1, S1, (er1.set i r2).set j r3, q1⟩
theorem good_par3 (C : COk T L X) {i j l : Nat} {x y z : Str} {es : IA} {a b c : Expr} {px py pz pt pt2 pos : Pos} {kt k2 : Nat} (hi : X.N[i]? = some x) (hj : X.N[j]? = some y) (hl : X.N[l]? = some z) (hij : i ≠ j) (hil : i ≠ l) (hjl : j ≠ l)
    (hx : X.env.scope.names.lookup x = some .local) (hy : X.env.scope.names.lookup y = some .local) (hz : X.env.scope.names.lookup z = some .local) (h : GoodA T Φ X es [a, b, c])
    (hw : swappedStores [.Tuple [.Name x px, .Name y py, .Name z pz] kt pt] (.Tuple [a, b, c] k2 pt2) X.env = pure (some [x, y, z])) :
    GoodS T Φ X (.par [i, j, l] es) (.Assign [.Tuple [.Name x px, .Name y py, .Name z pz] kt pt] (.Tuple [a, b, c] k2 pt2) pos) := by
  intro g I F H st env σ D hD er S q
  have q : wpA T.P Φ es env st (fun vs st1 => vs.length = 3 ∧ D.nx (([i, j, l].zip vs).foldl (fun s p => s.set p.1 (some p.2)) env) st1) (fun c v st' => D.ex c v env st') := q
  rw [noex hD] at q
  refine run_S (ps_par3 C.nd_calm C.nd hi hj hl hij hil hjl hx hy hz rA hw rfl) ?_
  refine h.then_ er S q fun g1 I1 H1 st1 ys vs a1 b1 S1 er1 r1 q1 => ?_
  obtain ⟨hl', q1⟩ := q1
  match ys, hl' with
  | [u, v, w], _ =>
    obtain ⟨v1, r, rfl, r2, r3⟩ := r1
    obtain ⟨v2, v3, rfl, r4, r5⟩ := RepVs.two r3
    exact ⟨v1, v2, v3, rfl, g1, I1, _, st1, a1, b1, S1, ((er1.set i r2).set j r4).set l r5, q1⟩

/-! ### o[i] = v, o.f = v -/
def setSem (X : Cx) : TSet := fun o i v H Q => ∀ (pins : List (Addr × Obj)) (s : Shared) (σ : HS) (ov iv u : Value), Inv X pins σ H s → RelV o ov → RelV i iv → RelV v u →
    wpAny (model X.prog X.w) X.A (setItem ov iv u) (fun _ s' => ∃ H', Inv X pins σ H' s' ∧ Q H') X.xe s
theorem setSem_ok : PSet X (setSem X) := fun pins s σ H o i v ov iv u Q I r1 r2 r3 h => h pins s σ ov iv u I r1 r2 r3
theorem set_ok (C : COk T L X) {g : Mu} {I F H : Hp} {st : Sto} {x i y : MV} {o iv v : V} {Q : Sto → Prop} (S : T.Sim g I F H st) (rx : RepV T.K g I x o) (ri : RepV T.K g I i iv) (ry : RepV T.K g I y v) (h : opSet x i y st Q) :
    setSem X o iv v H fun H' => ∃ st', T.Sim g I F H' st' ∧ Q st' := by
  have hu := C.u
  cases x with
  | ref a =>
    obtain ⟨p, hp, rfl⟩ := rx
    simp only [opSet] at h
    split at h
    · rename_i xs hs
      obtain ⟨n, k, rfl, hk, q⟩ := h
      obtain ⟨vs, e1, r1⟩ := S.at_ hp hs
      cases ri
      have S2 : T.Sim g I F (upd H p (.lst (vs.set k v))) (st.set a (.lst (xs.set k y))) := S.write hp (S.open_ hp e1 fun _ _ z => nomatch z) ⟨_, upd_same, r1.set k ry⟩
      exact fun pins s σ ov iv' u I0 h1 h2 h3 => set_list pins s σ H _ _ _ ov iv' u _ I0 h1 h2 h3 ⟨p, vs, n, k, rfl, rfl, e1, by rw [r1.len]; exact hk, _, S2, q⟩
    · rename_i kvs hs
      obtain ⟨hk, hl, q⟩ := h
      obtain ⟨k', ek, rfl⟩ := keyV_of hk ri
      obtain ⟨ws, e1, r1⟩ := S.at_ hp hs
      have S2 : T.Sim g I F (upd H p (.dK (putK ws k' v))) (st.set a (.dic false (kPut i y kvs))) := S.write hp (S.open_ hp e1 fun _ _ z => nomatch z) ⟨_, upd_same, r1.put ek ry⟩
      intro pins s σ ov iv' u I0 h1 h2 h3
      cases h1
      exact d_setItem (by omega) I0 (.inl ⟨ws, k', e1, rfl, by rw [r1.len, ← big_eq]; exact hl, rfl⟩) h2 h3 fun s4 I4 => ⟨_, I4, _, S2, q⟩
    · exact h.elim
  | _ => exact h.elim
theorem good_setsub (C : COk T L X) {o i e : IE} {eo ei ev : Expr} {p pos : Pos} (ho : GoodE T Φ X o eo) (hi : GoodE T Φ X i ei) (he : GoodE T Φ X e ev) (hx : okIx ei = true) : GoodS T Φ X (.setsub o i e) (.Assign [.Subscript eo ei p] ev pos) := by
  intro g I F H st env σ D hD er S q
  have q : wpE T.P Φ e env st (fun v st1 => wpE T.P Φ o env st1 (fun x st2 => wpE T.P Φ i env st2 (fun y st3 => opSet x y v st3 fun st4 => D.nx env st4)
      (fun c v st' => D.ex c v env st')) (fun c v st' => D.ex c v env st')) (fun c v st' => D.ex c v env st') := q
  rw [noex hD] at q
  have ha : ∀ v, assign (.Subscript eo ei p) X.env v = (do
      let ov ← holding [v] (eval eo X.env)
      let iv ← holding [v, ov] (eval ei X.env)
      standAt p
      holding [v, ov, iv] (setItem ov iv v)
      release [v, ov, iv] []) := by
    intro v
    cases ei <;> first | rfl | exact absurd hx Bool.false_ne_true
  refine run_S (ps_asg rE (pg_sub rE rE setSem_ok ha) (sole_sub _ _) (by cases ev <;> rfl) (by cases ei <;> rfl)) ?_
  refine he.then_ er S q fun g1 I1 H1 st1 y v a1 b1 S1 er1 r1 q1 => ?_
  refine ho.then_ er1 S1 q1 fun g2 I2 H2 st2 xm xv a2 b2 S2 er2 r2 q2 => ?_
  refine hi.then_ er2 S2 q2 fun g3 I3 H3 st3 im iv a3 b3 S3 er3 r3 q3 => ?_
  intro pins s σ' ov iv' u I0 h1 h2 h3
  exact thn (set_ok C S3 (r2.mono a3 b3) r3 (r1.mono (a2.trans a3) (b2.trans b3)) q3 pins s σ' ov iv' u I0 h1 h2 h3) fun _ s' ⟨H', I', st', S', q'⟩ => ⟨H', I', g3, I3, env, st', (a1.trans a2).trans a3, (b1.trans b2).trans b3, S', er3, q'⟩
theorem RepFs.put {K : PySem.W.Frag} {g : Mu} {I : Hp} {fs : List (String × MV)} {ws : List (Str × V)} (r : RepFs K g I fs ws) {f : String} {x : MV} {v : V} (rv : RepV K g I x v) : RepFs K g I (putFld f x fs) (putF (Str.ofString f) v ws) := by
  induction r with
  | nil => exact .cons rv .nil
  | @cons f' y w r r' h2 h3 ih =>
    unfold putFld putF
    by_cases e : f' = f
    · subst e
      simp only [if_true]
      exact .cons rv h3
    · have e2 : ¬ Str.ofString f' = Str.ofString f := fun z => e (ofS_inj z)
      rw [if_neg e, if_neg e2]
      exact .cons h2 ih
theorem RepFs.len {K : PySem.W.Frag} {g : Mu} {I : Hp} {fs : List (String × MV)} {ws : List (Str × V)} (r : RepFs K g I fs ws) : ws.length = fs.length := by
  induction r with
  | nil => rfl
  | cons _ _ ih => simp [ih]
theorem good_setfld (TO : TOk T) (C : COk T L X) {o e : IE} {f : String} {eo ev : Expr} {p pos : Pos} (ho : GoodE T Φ X o eo) (he : GoodE T Φ X e ev) (hn : noComp ev = true ∨ swapsWith ev (some (.Attribute eo (Str.ofString f) p)) pos.line X.env = pure false) :
    GoodS T Φ X (.setfld o f e) (.Assign [.Attribute eo (Str.ofString f) p] ev pos) := by
  intro g I F H st env σ D hD er S q
  have q : wpE T.P Φ e env st (fun v st1 => wpE T.P Φ o env st1 (fun x st2 => ∃ n c fs, x = .ref n ∧ st2[n]? = some (.ins c fs) ∧ T.P.pr c f = some none ∧ fs.length < 20 ∧ D.nx env (st2.set n (.ins c (putFld f v fs))))
      (fun c v st' => D.ex c v env st')) (fun c v st' => D.ex c v env st') := q
  rw [noex hD] at q
  refine run_S (ps_fld rE rE (by rcases hn with hn | hn; exact swaps_no hn _ _ _; exact hn)) ?_
  refine he.then_ er S q fun g1 I1 H1 st1 y v a1 b1 S1 er1 r1 q1 => ?_
  refine ho.then_ er1 S1 q1 fun g2 I2 H2 st2 xm xv a2 b2 S2 er2 r2 q2 => ?_
  obtain ⟨n, c, fs, rfl, hs, hp0, hl, q2⟩ := q2
  obtain ⟨a, ha, rfl⟩ := r2
  obtain ⟨Cl, dx, ws, hc, hH, rf⟩ := S2.at_ ha hs
  refine ⟨a, Cl, dx, ws, rfl, hH, by rw [C.K]; exact TO.clk _ _ hc, by rw [C.K]; exact TO.fl c Cl f hc hp0, by rw [rf.len]; omega, g2, I2, env, _, a1.trans a2, b1.trans b2, ?_, er2, q2⟩
  exact S2.write ha (S2.open_ ha hH fun _ _ z => nomatch z) ⟨Cl, dx, _, hc, upd_same, rf.put (r1.mono a2 b2)⟩

/-! ### if, while -/
theorem good_if {c : IE} {a b : List IS} {ec : Expr} {sa sb : List Stmt} {p : Pos} (hc : GoodT T Φ X c ec) (ha : GoodSs T Φ X a sa) (hb : GoodSs T Φ X b sb) : GoodS T Φ X (.iff c a b) (.If ec sa sb p) := by
  intro g I F H st env σ D hD er S q
  have q : wpE T.P Φ c env st (fun x st1 => ∃ t, truth st1 x = some t ∧ if t = true then wpSs T.P Φ a D env st1 else wpSs T.P Φ b D env st1) (fun c v st' => D.ex c v env st') := q
  rw [noex hD] at q
  refine run_S (ps_if rT rSs rSs) ?_
  refine hc.then_ (R := fun t _ st1 => if t = true then wpSs T.P Φ a D env st1 else wpSs T.P Φ b D env st1) er S q fun g1 I1 H1 st1 t x a1 b1 S1 er1 ht q1 => ?_
  cases t with
  | true => exact (ha g1 I1 F H1 st1 env σ D hD er1 S1 q1).le (EndLe.from_ a1 b1)
  | false => exact (hb g1 I1 F H1 st1 env σ D hD er1 S1 q1).le (EndLe.from_ a1 b1)
theorem good_while (po : PassesOwn (model X.prog X.w) X.A X.env X.xe) {c : IE} {b : List IS} {ec : Expr} {sb : List Stmt} {p : Pos} (hc : GoodT T Φ X c ec) (hb : GoodSs T Φ X b sb) : GoodS T Φ X (.whl c b) (.While ec sb [] p) := by
  intro g I F H st env σ D hD er S q
  obtain ⟨n, q⟩ := q
  refine run_S (ps_while po rT rSs) ?_
  refine ⟨fun m σ' H' => QS T g I F (whileN (fun σ1 st1 k => wpE T.P Φ c σ1 st1 (fun x st2 => ∃ t, truth st2 x = some t ∧ k t st2) (fun c v st' => D.ex c v σ1 st')) (wpSs T.P Φ b) D m) σ' H', ⟨n, g, I, env, st, LeM.refl _, LeH.refl _, S, er, q⟩, ?_⟩
  rintro m σ1 H1 ⟨g1, I1, env1, st1, a1, b1, S1, er1, q1⟩
  cases m with
  | zero => exact (show False from q1).elim
  | succ m =>
    have q1 : wpE T.P Φ c env1 st1 (fun x st2 => ∃ t, truth st2 x = some t ∧ if t = true then wpSs T.P Φ b { D with nx := whileN _ (wpSs T.P Φ b) D m, ct := whileN _ (wpSs T.P Φ b) D m, bk := D.nx } env1 st2 else D.nx env1 st2) (fun c v st' => D.ex c v env1 st') := q1
    rw [noex hD] at q1
    refine hc.then_ (R := fun t _ st2 => if t = true then wpSs T.P Φ b { D with nx := whileN _ (wpSs T.P Φ b) D m, ct := whileN _ (wpSs T.P Φ b) D m, bk := D.nx } env1 st2 else D.nx env1 st2) er1 S1 q1 fun g2 I2 H2 st2 t x a2 b2 S2 er2 ht q2 => ?_
    cases t with
    | false => exact ⟨g2, I2, env1, st2, a1.trans a2, b1.trans b2, S2, er2, q2⟩
    | true =>
      refine ⟨_, fun σ' H' z => ⟨m, Nat.lt_succ_self _, z⟩, ?_⟩
      exact (hb g2 I2 F H2 st2 env1 σ1 { D with nx := whileN _ (wpSs T.P Φ b) D m, ct := whileN _ (wpSs T.P Φ b) D m, bk := D.nx } hD er2 S2 q2).le
        ⟨fun _ _ z => QS.from_ (a1.trans a2) (b1.trans b2) z, fun _ _ z => QV.from_ (a1.trans a2) (b1.trans b2) z, fun _ _ z => QS.from_ (a1.trans a2) (b1.trans b2) z, fun _ _ z => QS.from_ (a1.trans a2) (b1.trans b2) z⟩
end
end Snd
-- S19
namespace Snd
open PySem L2 Mi
section
variable {T : Tab} {Φ : Phi} {L : Nat} {X : Cx}

/-! ### for -/
abbrev forStep (P : Prog) (Φ : Phi) (tg : ITg) (b : List IS) (Bk : Mi.Env → Sto → Prop) (Rt : MV → Sto → Prop) (Ex : String → MV → Mi.Env → Sto → Prop) (x : MV) (σ1 : Mi.Env) (st2 : Sto) (k : Mi.Env → Sto → Prop) : Prop :=
  setTg tg x σ1 fun σ2 => wpSs P Φ b { nx := k, ct := k, bk := Bk, rt := Rt, ex := Ex } σ2 st2
theorem for_core {g1 : Mu} {I1 F1 H1 : Hp} {st1 : Sto} {env : Mi.Env} {σ : HS} {J : L2.It} {xs : List MV} {ok : Sto → Prop} {tg : ITg} {b : List IS} {sb : List Stmt} {Bk : Mi.Env → Sto → Prop} {Rt : MV → Sto → Prop} {Ex : String → MV → Mi.Env → Sto → Prop} {Dn : L2.Ends}
    (KX : X.K = T.K) (hJ : ItRel T g1 I1 F1 J xs ok) (S1 : T.Sim g1 I1 F1 H1 st1) (er : EnvRel T.K g1 I1 env σ) (hb : GoodSs T Φ X b sb) (hx : ∀ c v σ st, ¬ Ex c v σ st)
    (h : loop ok (forStep T.P Φ tg b Bk Rt Ex) xs env st1 Bk) (hn : ∀ σ' H', QS T g1 I1 F1 Bk σ' H' → Dn.nx σ' H') (hr : ∀ v H', T.QV g1 I1 F1 Rt v H' → Dn.rt v H') :
    ∃ W : Nat → Nat → HS → Hp → Prop, (∃ m, W 0 m σ H1) ∧ ∀ i m σ H, W i m σ H →
      (J.stop i H ∧ Dn.nx σ H) ∨ (J.go i H ∧ ∃ N : HS → Hp → Prop, (∀ σ' H', N σ' H' → ∃ m', m' < m ∧ W (i + 1) m' σ' H') ∧ ∀ x H', J.yld i H x H' → tgS X.K tg x σ H' fun σ2 H2 => RunSs X sb { Dn with nx := N, ct := N, bk := Dn.nx } σ2 H2) := by
  refine ⟨fun i m σ' H => m = xs.length - i ∧ i ≤ xs.length ∧ QS T g1 I1 F1 (fun env' st' => loop ok (forStep T.P Φ tg b Bk Rt Ex) (xs.drop i) env' st' Bk) σ' H,
    ⟨xs.length, by simp, Nat.zero_le _, g1, I1, env, st1, LeM.refl _, LeH.refl _, S1, er, by simpa using h⟩, ?_⟩
  rintro i m σ' H ⟨rfl, hi, g', I', env', st', hg, hI, S, er', lp⟩
  cases hd : xs.drop i with
  | nil =>
    have hi' : xs.length ≤ i := by
      have := congrArg List.length hd
      simp at this
      omega
    rw [hd] at lp
    obtain ⟨o1, q1⟩ := lp
    exact .inl ⟨(hJ g' I' _ H st' i hg hI (LeH.refl _) S o1).1 hi', hn _ _ ⟨g', I', env', st', hg, hI, S, er', q1⟩⟩
  | cons x rest =>
    obtain ⟨hx', hr', hlt⟩ := drop_cons hd
    rw [hd] at lp
    obtain ⟨o1, q1⟩ := lp
    obtain ⟨j1, j2⟩ := (hJ g' I' _ H st' i hg hI (LeH.refl _) S o1).2 x hx'
    refine .inr ⟨j1, QS T g1 I1 F1 (fun env' st' => loop ok (forStep T.P Φ tg b Bk Rt Ex) rest env' st' Bk), fun σ2 H' z => ⟨xs.length - (i + 1), by omega, rfl, hlt, by rw [hr']; exact z⟩, fun v H' y => ?_⟩
    obtain ⟨I2, le2, S2, r2⟩ := j2 v H' y
    have hI2 := hI.trans le2
    refine tg_run KX (er'.mono (LeM.refl _) le2) S2 r2 q1 fun σ2 env2 e2 q2 _ => ?_
    refine (hb g' I2 F1 H' st' env2 σ2 ⟨fun a' s' => loop ok (forStep T.P Φ tg b Bk Rt Ex) rest a' s' Bk, Rt, Bk, fun a' s' => loop ok (forStep T.P Φ tg b Bk Rt Ex) rest a' s' Bk, Ex⟩ hx e2 S2 q2).le ⟨fun _ _ z => QS.from_ hg hI2 z, fun _ _ z => hr _ _ (QV.from_ hg hI2 z), fun _ _ z => hn _ _ (QS.from_ hg hI2 z), fun _ _ z => QS.from_ hg hI2 z⟩
theorem good_for (po : PassesOwn (model X.prog X.w) X.A X.env X.xe) (C : COk T L X) {tg : ITg} {ii : II} {b : List IS} {tgE iter : Expr} {sb : List Stmt} {p : Pos} (hpl : Plain ii = true) (hi : GoodI T Φ X ii tgE iter) (ht : tgM X.N X.env.scope X.fn tg tgE = true) (hb : GoodSs T Φ X b sb) (hs : noSet iter = true) :
    GoodS T Φ X (.for_ tg ii b) (.For tgE iter sb [] p) := by
  intro g I F H st env σ D hD er S q
  refine run_S (ps_for po C.nd_calm rI (tg_pg C.nd C.nd_calm ht) rSs (folded_ok hs _)) ?_
  have q : wpI T.P Φ ii env st (fun J st1 fin => loop J.ok (fun x σ1 st2 k => setTg tg x σ1 fun σ2 => wpSs T.P Φ b { nx := k, ct := k, bk := fun σ' st' => fin st' fun st'' => D.nx σ' st'', rt := fun v st' => fin st' fun st'' => D.rt v st'', ex := fun c v σ' st' => fin st' fun st'' => D.ex c v σ' st'' } σ2 st2) J.xs env st1
        fun σ' st' => fin st' fun st'' => D.nx σ' st'') (fun c v st' => D.ex c v env st') := q
  rw [noex hD] at q
  refine (hi g I F H st env σ _ er S q).mono fun J H1 ⟨g1, I1, st1, J', a1, b1, S1, hJ, lp⟩ => ?_
  exact for_core (Bk := D.nx) (Rt := D.rt) (Ex := D.ex) (Dn := EndR T g I F D) C.K hJ S1 (er.mono a1 b1) hb hD lp (fun σ' H' z => QS.from_ a1 b1 z) (fun v H' z => QV.from_ a1 b1 z)
theorem QS.unlock {g : Mu} {I F H : Hp} {σ : HS} {p : Addr} {a : Nat} {kvs : List (MV × MV)} {ws : List (Key × V)} {od : Obj} {P : Mi.Env → Sto → Prop} (hg : g a = some p) (hf : F p = none)
    (h : QS T g I (upd F p (.frz od (.dK ws))) (fun σ' st' => Mi.unlock a kvs st' fun st'' => P σ' st'') σ H) : H p = some (.frz od (.dK ws)) ∧ QS T g I F P σ (upd H p (.dK ws)) := by
  obtain ⟨g', I', e, st', a1, b1, S, er, hs, q⟩ := h
  exact ⟨S.fh p _ upd_same, g', I', e, _, a1, b1, S.unlock hf (a1 _ _ hg) hs, er, q⟩
theorem QV.unlock {g : Mu} {I F H : Hp} {v : V} {p : Addr} {a : Nat} {kvs : List (MV × MV)} {ws : List (Key × V)} {od : Obj} {P : Post} (hg : g a = some p) (hf : F p = none)
    (h : T.QV g I (upd F p (.frz od (.dK ws))) (fun x st' => Mi.unlock a kvs st' fun st'' => P x st'') v H) : H p = some (.frz od (.dK ws)) ∧ T.QV g I F P v (upd H p (.dK ws)) := by
  obtain ⟨g', I', x, st', a1, b1, S, r, hs, q⟩ := h
  exact ⟨S.fh p _ upd_same, g', I', x, _, a1, b1, S.unlock hf (a1 _ _ hg) hs, r, q⟩
theorem good_forD (po : PassesOwn (model X.prog X.w) X.A X.env X.xe) (C : COk T L X) {tg : ITg} {ii : II} {b : List IS} {tgE iter : Expr} {sb : List Stmt} {p : Pos} (hd : isDW ii) (hi : DictI T Φ X ii tgE iter) (ht : tgM X.N X.env.scope X.fn tg tgE = true) (hb : GoodSs T Φ X b sb) (hs : noSet iter = true) :
    GoodS T Φ X (.for_ tg ii b) (.For tgE iter sb [] p) := by
  intro g I F H st env σ D hD er S q
  refine run_S (ps_unl (ps_for po C.nd_calm rI (tg_pg C.nd C.nd_calm ht) rSs (folded_ok hs _))) ?_
  have q : wpI T.P Φ ii env st (fun J st1 fin => loop J.ok (fun x σ1 st2 k => setTg tg x σ1 fun σ2 => wpSs T.P Φ b { nx := k, ct := k, bk := fun σ' st' => fin st' fun st'' => D.nx σ' st'', rt := fun v st' => fin st' fun st'' => D.rt v st'', ex := fun c v σ' st' => fin st' fun st'' => D.ex c v σ' st'' } σ2 st2) J.xs env st1
        fun σ' st' => fin st' fun st'' => D.nx σ' st'') (fun c v st' => D.ex c v env st') := q
  rw [noex hD] at q
  refine (hi g I F H st env σ _ er S q).mono fun J H1 ⟨g1, I1, st1, a, r, kvs, ws, od, a1, b1, hp, hf, nf, S1, e3, lp⟩ => ?_
  subst e3
  refine for_core (Bk := fun σ' st' => Mi.unlock a kvs st' fun st'' => D.nx σ' st'') (Rt := fun v st' => Mi.unlock a kvs st' fun st'' => D.rt v st'') (Ex := fun c v σ' st' => Mi.unlock a kvs st' fun st'' => D.ex c v σ' st'')
    C.K (dIt_rel hd hp) S1 (er.mono a1 b1) hb (fun c v σ st h => hD _ _ _ _ h.2) lp (fun σ' H' z => ?_) (fun v H' z => ?_)
  · obtain ⟨z1, z2⟩ := QS.unlock (P := D.nx) hp hf z
    exact ⟨r, od, .dK ws, z1, nf, QS.from_ a1 b1 z2⟩
  · obtain ⟨z1, z2⟩ := QV.unlock (P := D.rt) hp hf z
    exact ⟨r, od, .dK ws, z1, nf, QV.from_ a1 b1 z2⟩

/-! ### name = [..], name = {..} where the block hands its value on -/
theorem sw_lc {C : COk T L X} {elt : Expr} {gs : List Comprehension} {scope : Scope} {pos py : Pos} {y : Str} {l : Nat} (hk : X.env.scope.kind = .function) (hy : X.env.scope.names.lookup y = some .local) (hl : (py.line == pos.line) = true)
    (ha : (scope.names.any fun (n, k) => n == y && (k == .local || k == .cell)) = false) : swapsWith (.ListComp elt gs scope pos) (some (.Name y py)) l X.env = pure true := sw_true hk hy hl ha
theorem sw_dc {env : PySem.Env} {ek ev : Expr} {gs : List Comprehension} {scope : Scope} {pos py : Pos} {y : Str} {l : Nat} (hk : env.scope.kind = .function) (hy : env.scope.names.lookup y = some .local) (hl : (py.line == pos.line) = true)
    (ha : (scope.names.any fun (n, k) => n == y && (k == .local || k == .cell)) = false) : swapsWith (.DictComp ek ev gs scope pos) (some (.Name y py)) l env = pure true := by
  have ky : env.kindOf y = some .local := hy
  have hb : env.blockKind = .function := by unfold Env.blockKind; rw [hk]; rfl
  unfold swapsWith
  simp only [hb, ky, ha, Expr.pos, hl]
  rfl
theorem lc_goal (C : COk T L X) {ii : II} {elt : IE} {tg : ITg} {cond : IO} {own : List (Str × Nat)} {e tgE iter : Expr} {ifs : List Expr} {scope : Scope} {g : Mu} {I F H : Hp} {st : Sto} {env : Mi.Env} {σ : HS} {Q : Post} (hi : GoodI T Φ X ii tgE iter) (hsl : ∀ i ∈ slots tg, i ∈ own.map (·.2)) (hc : ∀ s H C cl fp, GoodC T Φ (Blk X scope s H C cl fp) cond ifs)
    (he : ∀ s H C cl fp, GoodE T Φ (Blk X scope s H C cl fp) elt e) (er : EnvRel T.K g I env σ) (S : T.Sim g I F H st) (q : wpE T.P Φ (.lc elt tg ii cond (own.map (·.2))) env st Q NoX) :
    tLc (RunI X tgE iter) (tgS X.K tg) (AllTs X scope ifs) (AllE X scope e) (own.map (·.2)) σ H (T.QV g I F Q) := by
  refine (hi g I F H st env σ _ er S q).mono fun J H1 ⟨g1, I1, st1, J', a1, b1, S1, hJ, hlen, lp⟩ D hD => ?_
  obtain ⟨W, w0, w1⟩ := lc_loop (X := X) C.K hJ hlen S1 (er.mono a1 b1) hsl hc he lp D hD
  refine ⟨W, w0, fun i m H2 w => ?_⟩
  rcases w1 i m H2 w with ⟨z1, z2⟩ | z
  · exact .inl ⟨z1, held_new a1 b1 (none_of_le S1.fh hD) z2⟩
  · exact .inr z
theorem good_setLc (C : COk T L X) {i : Nat} {y : Str} {py spos : Pos} {ii : II} {elt : IE} {tg : ITg} {cond : IO} {own : List (Str × Nat)} {e tgE iter : Expr} {ifs : List Expr} {scope : Scope} {pos : Pos} (hy : X.N[i]? = some y) (hyl : X.env.scope.names.lookup y = some .local)
    (hsw : swapsWith (.ListComp e [⟨tgE, iter, ifs, 0⟩] scope pos) (some (.Name y py)) spos.line X.env = pure true) (hi : GoodI T Φ X ii tgE iter) (ok : BlkOk X.N X.env.scope scope own)
    (ht : tgM X.N (relS scope X.env.scope) (fun x => scope.names.lookup x == some .cell) tg tgE = true) (hsl : ∀ i ∈ slots tg, i ∈ own.map (·.2)) (hc : ∀ s H C cl fp, GoodC T Φ (Blk X scope s H C cl fp) cond ifs)
    (he : ∀ s H C cl fp, GoodE T Φ (Blk X scope s H C cl fp) elt e) (hs : noSet iter = true) : GoodS T Φ X (.asg (.name i) (.lc elt tg ii cond (own.map (·.2)))) (.Assign [.Name y py] (.ListComp e [⟨tgE, iter, ifs, 0⟩] scope pos) spos) := by
  intro g I F H st env σ D hD er S q
  have q : wpE T.P Φ (.lc elt tg ii cond (own.map (·.2))) env st (fun v st1 => D.nx (env.set i (some v)) st1) (fun c v st' => D.ex c v env st') := q
  rw [noex hD] at q
  refine run_S (ps_setLc (g := tgS X.K tg) (tt := AllTs X scope ifs) (te := AllE X scope e) C.nd_calm C.nd hy hyl hsw rI ok (fun s H0 Cc cl fp => tg_pg (X := Blk X scope s H0 Cc cl fp) C.nd C.nd_calm ht) (fun s H0 Cc cl fp => rAllTs s H0 Cc cl fp) (fun s H0 Cc cl fp => rAllE s H0 Cc cl fp) (folded_ok hs _)) ?_
  have z := lc_goal C hi hsl hc he er S q
  refine RunI.mono z fun J H1 h D0 hD0 => ?_
  obtain ⟨W, w0, w1⟩ := h D0 hD0
  refine ⟨W, w0, fun i' m H2 w => ?_⟩
  rcases w1 i' m H2 w with ⟨z1, z2⟩ | z
  · obtain ⟨g', I', x, st', a, b, S', r, q'⟩ := z2
    exact .inl ⟨z1, g', I', _, st', a, b, S', (er.mono a b).set i r, q'⟩
  · exact .inr z
theorem good_setLcD (C : COk T L X) {i : Nat} {y : Str} {py spos : Pos} {ii : II} {elt : IE} {tg : ITg} {cond : IO} {own : List (Str × Nat)} {e tgE iter : Expr} {ifs : List Expr} {scope : Scope} {pos : Pos} (hy : X.N[i]? = some y) (hyl : X.env.scope.names.lookup y = some .local)
    (hsw : swapsWith (.ListComp e [⟨tgE, iter, ifs, 0⟩] scope pos) (some (.Name y py)) spos.line X.env = pure true) (hd : isDW ii) (hi : DictI T Φ X ii tgE iter) (ok : BlkOk X.N X.env.scope scope own)
    (ht : tgM X.N (relS scope X.env.scope) (fun x => scope.names.lookup x == some .cell) tg tgE = true) (hsl : ∀ i ∈ slots tg, i ∈ own.map (·.2)) (hc : ∀ s H C cl fp, GoodC T Φ (Blk X scope s H C cl fp) cond ifs)
    (he : ∀ s H C cl fp, GoodE T Φ (Blk X scope s H C cl fp) elt e) (hs : noSet iter = true) : GoodS T Φ X (.asg (.name i) (.lc elt tg ii cond (own.map (·.2)))) (.Assign [.Name y py] (.ListComp e [⟨tgE, iter, ifs, 0⟩] scope pos) spos) := by
  intro g I F H st env σ D hD er S q
  have q : wpE T.P Φ (.lc elt tg ii cond (own.map (·.2))) env st (fun v st1 => D.nx (env.set i (some v)) st1) (fun c v st' => D.ex c v env st') := q
  rw [noex hD] at q
  refine run_S (ps_unl (ps_setLc (g := tgS X.K tg) (tt := AllTs X scope ifs) (te := AllE X scope e) C.nd_calm C.nd hy hyl hsw rI ok (fun s H0 Cc cl fp => tg_pg (X := Blk X scope s H0 Cc cl fp) C.nd C.nd_calm ht) (fun s H0 Cc cl fp => rAllTs s H0 Cc cl fp) (fun s H0 Cc cl fp => rAllE s H0 Cc cl fp) (folded_ok hs _))) ?_
  have z := lc_goalD C hd hi hsl hc he er S q
  refine RunI.mono z fun J H1 h D0 hD0 => ?_
  obtain ⟨W, w0, w1⟩ := h D0 hD0
  refine ⟨W, w0, fun i' m H2 w => ?_⟩
  rcases w1 i' m H2 w with ⟨z1, d, od, u, z3, nf, g', I', x, st', a, b, S', r, q'⟩ | z
  · exact .inl ⟨z1, d, od, u, z3, nf, g', I', _, st', a, b, S', (er.mono a b).set i r, q'⟩
  · exact .inr z
end
end Snd
-- S20
namespace Snd
open PySem L2 Mi
section
variable {T : Tab} {Φ : Phi} {L : Nat} {X : Cx}

/-! ### {k: v, ..} -/
inductive RepPs (K : PySem.W.Frag) (g : Mu) (I : Hp) : List (MV × MV) → List (V × V) → Prop where
  | nil : RepPs K g I [] []
  | cons {k x : MV} {v w : V} {r : List (MV × MV)} {r' : List (V × V)} : RepV K g I k v → RepV K g I x w → RepPs K g I r r' → RepPs K g I ((k, x) :: r) ((v, w) :: r')
theorem RepPs.keys {K : PySem.W.Frag} {g : Mu} {I : Hp} {kvs : List (MV × MV)} {ps : List (V × V)} (r : RepPs K g I kvs ps) (h : kvs.all (fun kv => isKey kv.1) = true) :
    ∃ ks : List (Key × V), ps = ks.map (fun kv => (kV kv.1, kv.2)) ∧ RepKV K g I kvs ks := by
  induction r with
  | nil => exact ⟨[], rfl, .nil⟩
  | @cons k x v w r r' h1 h2 _ ih =>
    simp only [List.all_cons, Bool.and_eq_true] at h
    obtain ⟨ks, e1, e2⟩ := ih h.2
    obtain ⟨k', e3, e4⟩ := keyV_of h.1 h1
    exact ⟨(k', w) :: ks, by rw [e1, e4]; rfl, .cons e3 h2 e2⟩
theorem RepKV.merge {K : PySem.W.Frag} {g : Mu} {I : Hp} {kvs : List (MV × MV)} {ks : List (Key × V)} (r : RepKV K g I kvs ks) : ∀ {acc : List (MV × MV)} {wcc : List (Key × V)}, RepKV K g I acc wcc →
    RepKV K g I (kvs.foldl (fun acc kv => kPut kv.1 kv.2 acc) acc) (mergeK wcc ks) := by
  induction r with
  | nil => intro acc wcc h; exact h
  | cons h1 h2 _ ih => intro acc wcc h; exact ih (h.put h1 h2)
def trsOf (X : Cx) : List (Option Expr) → List Expr → List (TE × TE)
  | some k :: ks, v :: vs => (RunE X k, RunE X v) :: trsOf X ks vs
  | _, _ => []
def GoodP (T : Tab) (Φ : Phi) (X : Cx) (ip : IP) (ks : List (Option Expr)) (vs : List Expr) : Prop := (ks.all (·.isSome) = true ∧ ks.length = vs.length ∧ ∀ pos, PPs X pos ks vs (trsOf X ks vs)) ∧
  ∀ (g : Mu) (I F H : Hp) (st : Sto) (env : Mi.Env) (σ : HS) (Q : List (MV × MV) → Sto → Prop) (Qr : List (V × V) → Hp → Prop), EnvRel T.K g I env σ → T.Sim g I F H st → wpP T.P Φ ip env st Q NoX →
    (∀ g1 I1 H1 st1 kvs ps, LeM g g1 → LeH I I1 → T.Sim g1 I1 F H1 st1 → RepPs T.K g1 I1 kvs ps → Q kvs st1 → Qr ps H1) → tPairs (trsOf X ks vs) σ H Qr
theorem good_pnil : GoodP T Φ X .nil [] [] := ⟨⟨rfl, rfl, fun _ => pps_nil⟩, fun g I F H st env σ Q Qr er S q k => k g I H st [] [] (LeM.refl _) (LeH.refl _) S .nil q⟩
theorem good_pcons {k v : IE} {r : IP} {ek ev : Expr} {ks : List (Option Expr)} {vs : List Expr} (hk : GoodE T Φ X k ek) (hv : GoodE T Φ X v ev) (hr : GoodP T Φ X r ks vs) : GoodP T Φ X (.cons k v r) (some ek :: ks) (ev :: vs) := by
  obtain ⟨⟨h1, h2, h3⟩, hr⟩ := hr
  refine ⟨⟨by simpa using h1, by simp [h2], fun pos => pps_cons rE rE (h3 pos)⟩, fun g I F H st env σ Q Qr er S q kk => ?_⟩
  refine hk.then_ er S q fun g1 I1 H1 st1 x xv a1 b1 S1 er1 r1 q1 => ?_
  refine hv.then_ er1 S1 q1 fun g2 I2 H2 st2 y yv a2 b2 S2 er2 r2 q2 => ?_
  refine hr g2 I2 F H2 st2 env σ _ _ er2 S2 q2 fun g3 I3 H3 st3 kvs ps a3 b3 S3 rp q3 => ?_
  exact kk g3 I3 H3 st3 _ _ ((a1.trans a2).trans a3) ((b1.trans b2).trans b3) S3 (.cons (r1.mono (a2.trans a3) (b2.trans b3)) (r2.mono a3 b3) rp) q3
theorem good_dnil {pos : Pos} : GoodE T Φ X (.dic .nil) (.Dict [] [] pos) := by
  intro g I F H st env σ Q er S q
  have q : ([] : List (MV × MV)).all (fun kv => isKey kv.1) = true ∧ ([] : List (MV × MV)).length ≤ 15 ∧ Q (.ref st.length) (st ++ [.dic false []]) := q
  exact run_E pe_dnewK fun p hn => new_dict S .nil q.2.2 hn
theorem good_dic {ps : IP} {k0 : Option Expr} {ks : List (Option Expr)} {vs : List Expr} {pos : Pos} (h : GoodP T Φ X ps (k0 :: ks) vs) (h15 : (k0 :: ks).length ≤ 15) : GoodE T Φ X (.dic ps) (.Dict (k0 :: ks) vs pos) := by
  intro g I F H st env σ Q er S q
  obtain ⟨⟨h1, h2, h3⟩, hr⟩ := h
  refine run_E (pe_disp (h3 pos) h1 h2 (by simp) h15) ?_
  intro p hn
  refine hr g I (upd F p (.dK [])) (upd H p (.dK [])) st env σ _ _ er (S.frame hn) q fun g1 I1 H1 st1 kvs pv a b S1 rp q1 => ?_
  obtain ⟨ky, hl, q1⟩ := q1
  obtain ⟨kk, rfl, rk⟩ := rp.keys ky
  refine ⟨S1.fh p _ upd_same, kk, rfl, by rw [rk.len]; exact hl, ?_⟩
  have S2 := S1.adopt (u := .dK (mergeK [] kk)) (mo := .dic false (kvs.foldl (fun acc kv => kPut kv.1 kv.2 acc) [])) dK_nofrz (none_of_le S.fh hn) ⟨_, upd_same, (rk.merge .nil).mono (gAdd_le S1.no) (LeH.refl _)⟩
  exact ⟨_, I1, .ref st1.length, _, a.trans (gAdd_le S1.no), b, S2, ⟨p, by unfold gAdd; rw [if_pos rfl], rfl⟩, q1⟩

/-! ### name = {..} on one line -/
theorem ps_setDc {i : Nat} {y : Str} {py : Pos} {ek ev tg iter : Expr} {scope : Scope} {own : List (Str × Nat)} {pos spos : Pos} {wi : TI} {g : TG} {tk tv : TE} (hc : X.calm = true) (hN : X.N.Nodup) (hy : X.N[i]? = some y) (hyl : X.env.scope.names.lookup y = some .local)
    (hsw : swapsWith (.DictComp ek ev [⟨tg, iter, [], 0⟩] scope pos) (some (.Name y py)) spos.line X.env = pure true) (hi : PI X tg iter wi) (ok : BlkOk X.N X.env.scope scope own)
    (hg : ∀ s H C cl fp, PG (Blk X scope s H C cl fp) tg g) (hk : ∀ s H C cl fp, PE (Blk X scope s H C cl fp) ek tk) (he : ∀ s H C cl fp, PE (Blk X scope s H C cl fp) ev tv) (hs : ∀ x, foldedSetIterable iter X.env x = pure x) :
    PS X (.Assign [.Name y py] (.DictComp ek ev [⟨tg, iter, [], 0⟩] scope pos) spos) (tAsg (tDc wi g tYes tk tv (own.map (·.2))) (gName i)) := by
  refine ⟨fun pins s σ H D I h => ?_⟩
  rw [exec_Assign_Name_used _ _ _ _ hsw]
  refine wpAny_bind (wpAny_standAt (wpAny_bind ?_))
  have h1 : tDc wi g tYes tk tv (own.map (·.2)) σ H (fun x H1 => gName i x σ H1 D.nx) := h
  show wpAny _ X.A (comprehension (.DictComp ek ev [⟨tg, iter, [], 0⟩] scope pos) scope X.env (firstIterPos [⟨tg, iter, [], 0⟩] pos) newDict false (eval iter X.env) (some (assign (.Name y py) X.env)) >>= fun _ => pure ()) _ _ s
  refine wpAny_bind (thn (dc_core (Qf := fun _ t => SP X pins D .next t) hc hN I hi ok hg (fun s H C cl fp => pts_nil) hk he hs h1 fun B Cc t m H' J q hn f => ?_) fun _ t z => wpAny_pure (wpAny_pure z))
  show wpAny _ _ (assign (.Name y py) X.env (.ref B)) _ _ _
  refine wpAny_assign_Name (store_ok2 (v := V.ref B) J hN hy (.inl hyl) rfl (fun t2 J2 ⟨a, sb, ha⟩ => ?_) (.inr hyl))
  obtain ⟨f0, f1, f2, f3, f4, f5⟩ := f
  have ne : Cc ≠ a := ha.elim (fun z => by rw [z]; exact f1) fun z e => f4 y a z e.symm
  exact ⟨m, hn.sameBut sb ne, fun h3 sb3 => ⟨_, H', J2.turned (t' := t2.toks) (fun b o hb e => (sb3.2 b hb).trans e) f0 f1 f3 f4 f5, q⟩⟩
theorem good_setDc (C : COk T L X) {i : Nat} {y : Str} {py spos : Pos} {ii : II} {ke ve : IE} {tg : ITg} {own : List (Str × Nat)} {ek ev tgE iter : Expr} {scope : Scope} {pos : Pos} (hy : X.N[i]? = some y) (hyl : X.env.scope.names.lookup y = some .local)
    (hsw : swapsWith (.DictComp ek ev [⟨tgE, iter, [], 0⟩] scope pos) (some (.Name y py)) spos.line X.env = pure true) (hi : GoodI T Φ X ii tgE iter) (ok : BlkOk X.N X.env.scope scope own)
    (ht : tgM X.N (relS scope X.env.scope) (fun x => scope.names.lookup x == some .cell) tg tgE = true) (hsl : ∀ i ∈ slots tg, i ∈ own.map (·.2)) (hk : ∀ s H C cl fp, GoodE T Φ (Blk X scope s H C cl fp) ke ek)
    (he : ∀ s H C cl fp, GoodE T Φ (Blk X scope s H C cl fp) ve ev) (hs : noSet iter = true) : GoodS T Φ X (.asg (.name i) (.dc ke ve tg ii (own.map (·.2)))) (.Assign [.Name y py] (.DictComp ek ev [⟨tgE, iter, [], 0⟩] scope pos) spos) := by
  intro g I F H st env σ D hD er S q
  have q : wpE T.P Φ (.dc ke ve tg ii (own.map (·.2))) env st (fun v st1 => D.nx (env.set i (some v)) st1) (fun c v st' => D.ex c v env st') := q
  rw [noex hD] at q
  refine run_S (ps_setDc (g := tgS X.K tg) (tk := AllE X scope ek) (tv := AllE X scope ev) C.nd_calm C.nd hy hyl hsw rI ok (fun s H0 Cc cl fp => tg_pg (X := Blk X scope s H0 Cc cl fp) C.nd C.nd_calm ht) (fun s H0 Cc cl fp => rAllE s H0 Cc cl fp) (fun s H0 Cc cl fp => rAllE s H0 Cc cl fp) (folded_ok hs _)) ?_
  refine (hi g I F H st env σ _ er S q).mono fun J H1 ⟨g1, I1, st1, J', a1, b1, S1, hJ, hlen, lp⟩ D0 hD0 => ?_
  obtain ⟨W, w0, w1⟩ := dc_loop (X := X) C.K hJ hlen S1 (er.mono a1 b1) hsl hk he lp D0 hD0
  refine ⟨W, w0, fun i' m H2 w => ?_⟩
  rcases w1 i' m H2 w with ⟨z1, z2⟩ | z
  · obtain ⟨g', I', x, st', a, b, S', r, q'⟩ := heldD_new (Q := fun v st1 => D.nx (env.set i (some v)) st1) a1 b1 (none_of_le S1.fh hD0) z2
    exact .inl ⟨z1, g', I', _, st', a, b, S', (er.mono a b).set i r, q'⟩
  · exact .inr z
theorem good_setDcD (C : COk T L X) {i : Nat} {y : Str} {py spos : Pos} {ii : II} {ke ve : IE} {tg : ITg} {own : List (Str × Nat)} {ek ev tgE iter : Expr} {scope : Scope} {pos : Pos} (hy : X.N[i]? = some y) (hyl : X.env.scope.names.lookup y = some .local)
    (hsw : swapsWith (.DictComp ek ev [⟨tgE, iter, [], 0⟩] scope pos) (some (.Name y py)) spos.line X.env = pure true) (hd : isDW ii) (hi : DictI T Φ X ii tgE iter) (ok : BlkOk X.N X.env.scope scope own)
    (ht : tgM X.N (relS scope X.env.scope) (fun x => scope.names.lookup x == some .cell) tg tgE = true) (hsl : ∀ i ∈ slots tg, i ∈ own.map (·.2)) (hk : ∀ s H C cl fp, GoodE T Φ (Blk X scope s H C cl fp) ke ek)
    (he : ∀ s H C cl fp, GoodE T Φ (Blk X scope s H C cl fp) ve ev) (hs : noSet iter = true) : GoodS T Φ X (.asg (.name i) (.dc ke ve tg ii (own.map (·.2)))) (.Assign [.Name y py] (.DictComp ek ev [⟨tgE, iter, [], 0⟩] scope pos) spos) := by
  intro g I F H st env σ D hD er S q
  have q : wpE T.P Φ (.dc ke ve tg ii (own.map (·.2))) env st (fun v st1 => D.nx (env.set i (some v)) st1) (fun c v st' => D.ex c v env st') := q
  rw [noex hD] at q
  refine run_S (ps_unl (ps_setDc (g := tgS X.K tg) (tk := AllE X scope ek) (tv := AllE X scope ev) C.nd_calm C.nd hy hyl hsw rI ok (fun s H0 Cc cl fp => tg_pg (X := Blk X scope s H0 Cc cl fp) C.nd C.nd_calm ht) (fun s H0 Cc cl fp => rAllE s H0 Cc cl fp) (fun s H0 Cc cl fp => rAllE s H0 Cc cl fp) (folded_ok hs _))) ?_
  have z := dc_goalD C hd hi hsl hk he er S q
  refine RunI.mono z fun J H1 h D0 hD0 => ?_
  obtain ⟨W, w0, w1⟩ := h D0 hD0
  refine ⟨W, w0, fun i' m H2 w => ?_⟩
  rcases w1 i' m H2 w with ⟨z1, d, od, u, z3, nf, g', I', x, st', a, b, S', r, q'⟩ | z
  · exact .inl ⟨z1, d, od, u, z3, nf, g', I', _, st', a, b, S', (er.mono a b).set i r, q'⟩
  · exact .inr z
end
end Snd
-- S21
namespace Snd
open PySem L2 Mi

/-! ### the text matched -/
def nodbg (x : Str) : Bool := !(x == ("__debug__" : Str))
def ownP (N : List Str) (own : List Nat) : List (Str × Nat) := own.map fun i => ((N[i]?).getD "", i)
theorem ownP_snd (N : List Str) (own : List Nat) : (ownP N own).map (·.2) = own := by simp [ownP, List.map_map, Function.comp_def]
def fnOf (scope : Scope) : Str → Bool := fun x => scope.names.lookup x == some .cell
def isTupE : Expr → Bool
  | .Tuple _ _ _ => true
  | _ => false
mutual
def bE (G : MT) : IE → List Str → Scope → (Str → Bool) → Expr → Bool
  | .var i, N, sc, fn, e => (match e with
    | .Name x _ => decide (N[i]? = some x) && isVis sc x && nodbg x && !(x == ("__classdict__" : Str))
    | _ => false)
  | .con v, N, sc, fn, e => (match e with
    | .Constant c _ _ => constIs c v
    | .Name x _ => isGl sc x && nodbg x && (match G.gl.lookup x with | some w => scEq v w && scalar v | none => false)
    | _ => false)
  | .tup es, N, sc, fn, e => (match e with
    | .Tuple xs _ _ => bA G es N sc fn xs
    | _ => false)
  | .lst es, N, sc, fn, e => (match e with
    | .List xs _ => bA G es N sc fn xs
    | _ => false)
  | .dic ps, N, sc, fn, e => (match e with
    | .Dict ks vs _ => bP G ps N sc fn ks vs && decide (ks.length ≤ 15) && (match ps with | .nil => ks.isEmpty && vs.isEmpty | _ => !ks.isEmpty)
    | _ => false)
  | .bin o a b, N, sc, fn, e => (match e with
    | .BinOp l p r _ => bopIs o p && bE G a N sc fn l && bE G b N sc fn r
    | _ => false)
  | .neg a, N, sc, fn, e => (match e with
    | .UnaryOp .USub x _ => bE G a N sc fn x
    | _ => false)
  | .cmp o a b, N, sc, fn, e => (match e with
    | .Compare l [p] [r] _ => copIs o p && bE G a N sc fn l && bE G b N sc fn r && okCmp o r
    | _ => false)
  | .chn o1 o2 a b c, N, sc, fn, e => (match e with
    | .Compare l [p1, p2] [r1, r2] _ => copIs o1 p1 && copIs o2 p2 && bE G a N sc fn l && bE G b N sc fn r1 && bE G c N sc fn r2 && okCmp o2 r2
    | _ => false)
  | .and a b, N, sc, fn, e => (match e with
    | .BoolOp .And [x, y] _ => bE G a N sc fn x && bE G b N sc fn y
    | .BoolOp .And (x :: y :: z :: r) pos => bE G a N sc fn x && bE G b N sc fn (.BoolOp .And (y :: z :: r) pos)
    | _ => false)
  | .or a b, N, sc, fn, e => (match e with
    | .BoolOp .Or [x, y] _ => bE G a N sc fn x && bE G b N sc fn y
    | .BoolOp .Or (x :: y :: z :: r) pos => bE G a N sc fn x && bE G b N sc fn (.BoolOp .Or (y :: z :: r) pos)
    | _ => false)
  | .not a, N, sc, fn, e => (match e with
    | .UnaryOp .Not x _ => bE G a N sc fn x
    | _ => false)
  | .ite c a b, N, sc, fn, e => (match e with
    | .IfExp x y z _ => bE G c N sc fn x && bE G a N sc fn y && bE G b N sc fn z
    | _ => false)
  | .sub a i, N, sc, fn, e => (match e with
    | .Subscript x y _ => bE G a N sc fn x && bE G i N sc fn y && okIx y
    | _ => false)
  | .sli a lo hi, N, sc, fn, e => (match e with
    | .Subscript x (.Slice l h none _) _ => bE G a N sc fn x && bO G lo N sc fn l && bO G hi N sc fn h
    | _ => false)
  | .rev a, N, sc, fn, e => (match e with
    | .Subscript x (.Slice none none (some (.UnaryOp .USub (.Constant (.int n) _ _) _)) _) _ => bE G a N sc fn x && decide (n = 1)
    | _ => false)
  | .fld a f, N, sc, fn, e => (match e with
    | .Attribute x g _ => bE G a N sc fn x && (g == Str.ofString f) && okBase x
    | _ => false)
  | .call f es, N, sc, fn, e => (match e with
    | .Call (.Name x _) xs [] _ => (x == Str.ofString f) && isGl sc x && G.fns.contains f && bA G es N sc fn xs && noStar xs && nodbg x && (match es with | .nil => xs.isEmpty | _ => !xs.isEmpty)
    | _ => false)
  | .new c es, N, sc, fn, e => (match e with
    | .Call (.Name x _) xs [] _ => (x == Str.ofString c) && isGl sc x && G.cls.contains c && bA G es N sc fn xs && noStar xs && nodbg x && (match es with | .nil => xs.isEmpty | _ => !xs.isEmpty)
    | _ => false)
  | .mth a m es, N, sc, fn, e => (match e with
    | .Call (.Attribute x g ap) xs [] p => bE G a N sc fn x && (g == Str.ofString m) && okBase x && bA G es N sc fn xs && noStar xs && (ap.endLine == p.line) && decide (xs.length < 20) && (match es with | .nil => xs.isEmpty | _ => !xs.isEmpty)
    | _ => false)
  | .bmt a m es, N, sc, fn, e => (match e with
    | .Call (.Attribute x g ap) (y :: ys) [] p => bE G a N sc fn x && (g == Str.ofString (mname m)) && okBase x && bA G es N sc fn (y :: ys) && noStar (y :: ys) && (ap.endLine == p.line) && decide ((y :: ys).length < 20)
    | _ => false)
  | .blt b es, N, sc, fn, e => (match e with
    | .Call (.Name x _) (y :: ys) [] _ => (x == Str.ofString (bname b)) && isGl sc x && bA G es N sc fn (y :: ys) && noStar (y :: ys)
    | _ => false)
  | .isi a t, N, sc, fn, e => (match e with
    | .Call (.Name x _) [y, .Name z _] [] _ => (x == Str.ofString "isinstance") && isGl sc x && bE G a N sc fn y && (z == Str.ofString (tyName t)) && isGl sc z && noStar [y] && nodbg z && !(z == ("__name__" : Str)) && (match t with | .own _ => false | _ => true)
    | _ => false)
  | .lrg a, N, sc, fn, e => (match e with
    | .Call (.Name x _) [.Call (.Name y _) [z] [] _] [] _ => (x == Str.ofString "list") && isGl sc x && (y == Str.ofString "range") && isGl sc y && bE G a N sc fn z && noStar [z]
    | _ => false)
  | .lc elt tg it cond own, N, sc, fn, e => (match e with
    | .ListComp x [⟨t, i, ifs, 0⟩] scope _ => blkC N sc scope (ownP N own) && tgM N (relS scope sc) (fnOf scope) tg t && (slots tg).all (own.contains ·) && bC G cond N (relS scope sc) (fnOf scope) ifs && bE G elt N (relS scope sc) (fnOf scope) x && noSet i && bI G it N sc fn t i
    | _ => false)
  | .dc k v tg it own, N, sc, fn, e => (match e with
    | .DictComp x y [⟨t, i, [], 0⟩] scope _ => blkC N sc scope (ownP N own) && tgM N (relS scope sc) (fnOf scope) tg t && (slots tg).all (own.contains ·) && bE G k N (relS scope sc) (fnOf scope) x && bE G v N (relS scope sc) (fnOf scope) y && noSet i && bI G it N sc fn t i
    | _ => false)
def bA (G : MT) : IA → List Str → Scope → (Str → Bool) → List Expr → Bool
  | .nil, N, sc, fn, xs => xs.isEmpty
  | .cons e r, N, sc, fn, xs => (match xs with
    | x :: xs => noStar [x] && bE G e N sc fn x && bA G r N sc fn xs
    | _ => false)
  | .star e r, N, sc, fn, xs => (match xs with
    | .Starred x _ :: xs => bE G e N sc fn x && bA G r N sc fn xs
    | _ => false)
def bP (G : MT) : IP → List Str → Scope → (Str → Bool) → List (Option Expr) → List Expr → Bool
  | .nil, N, sc, fn, ks, vs => ks.isEmpty && vs.isEmpty
  | .cons k v r, N, sc, fn, ks, vs => (match ks, vs with
    | some x :: ks, y :: vs => bE G k N sc fn x && bE G v N sc fn y && bP G r N sc fn ks vs
    | _, _ => false)
def bO (G : MT) : IO → List Str → Scope → (Str → Bool) → Option Expr → Bool
  | .non, N, sc, fn, e => e.isNone
  | .som a, N, sc, fn, e => (match e with
    | some x => bE G a N sc fn x
    | none => false)
/-- the conditions of a comprehension -/
def bC (G : MT) : IO → List Str → Scope → (Str → Bool) → List Expr → Bool
  | .non, N, sc, fn, xs => xs.isEmpty
  | .som a, N, sc, fn, xs => (match xs with
    | [x] => bE G a N sc fn x
    | _ => false)
def bI (G : MT) : II → List Str → Scope → (Str → Bool) → Expr → Expr → Bool
  | .ev a, N, sc, fn, t, e => bE G a N sc fn e
  | .rng a, N, sc, fn, t, e => (match e with
    | .Call (.Name x _) [y] [] _ => (x == Str.ofString "range") && isGl sc x && noStar [y] && bE G a N sc fn y
    | _ => false)
  | .rng2 a b, N, sc, fn, t, e => (match e with
    | .Call (.Name x _) [y, z] [] _ => (x == Str.ofString "range") && isGl sc x && noStar [y, z] && bE G a N sc fn y && bE G b N sc fn z
    | _ => false)
  | .enu a, N, sc, fn, t, e => (match e with
    | .Call (.Name x _) [y] [] _ => (x == Str.ofString "enumerate") && isGl sc x && noStar [y] && bE G a N sc fn y && isTupE t
    | _ => false)
  | .zip a b, N, sc, fn, t, e => (match e with
    | .Call (.Name x _) [y, z] [] _ => (x == Str.ofString "zip") && isGl sc x && noStar [y, z] && bE G a N sc fn y && bE G b N sc fn z && isTupE t
    | _ => false)
  | .keys p, N, sc, fn, t, e => bE G p N sc fn e
  | .items p, N, sc, fn, t, e => (match e with
    | .Call (.Attribute x m ap) [] [] cp => (m == Str.ofString "items") && bE G p N sc fn x && okBase x && (ap.endLine == cp.line) && isTupE t
    | _ => false)
  | .vals p, N, sc, fn, t, e => (match e with
    | .Call (.Attribute x m ap) [] [] cp => (m == Str.ofString "values") && bE G p N sc fn x && okBase x && (ap.endLine == cp.line)
    | _ => false)
end

section
variable {T : Tab} {Φ : Phi} {L : Nat}
structure Res (T : Tab) (Φ : Phi) (X : Cx) (ie : IE) (e : Expr) : Prop where
  ge : GoodE T Φ X ie e
  gt : GoodT T Φ X ie e
  gw : (∃ op xs p, e = .BoolOp op xs p) → GoodW T Φ X ie e
def plainT : Expr → Bool
  | .UnaryOp .Not _ _ => false
  | .BoolOp _ _ _ => false
  | .IfExp _ _ _ _ => false
  | .Compare _ _ _ _ => false
  | _ => true
theorem plain_he {e : Expr} (h : plainT e = true) (env : PySem.Env) (whole : Sem Value) : isTrue e env whole = (do let v ← whole; standAt e.pos; holding [v] (truthy v)) := by
  cases e with
  | UnaryOp op x p => cases op <;> first | rfl | exact absurd h Bool.false_ne_true
  | BoolOp => exact absurd h Bool.false_ne_true
  | IfExp => exact absurd h Bool.false_ne_true
  | Compare => exact absurd h Bool.false_ne_true
  | _ => rfl
theorem Res.plain {X : Cx} (C : COk T L X) {ie : IE} {e : Expr} (h : GoodE T Φ X ie e) (hp : plainT e = true) : Res T Φ X ie e :=
  ⟨h, good_truth C h (plain_he hp _), fun ⟨op, xs, p, z⟩ => by subst z; exact absurd hp Bool.false_ne_true⟩
/-- where one stands, told by the scope -/
structure At (T : Tab) (L : Nat) (X : Cx) (N : List Str) (sc : Scope) (fn : Str → Bool) : Prop where
  ok : COk T L X
  n : X.N = N
  s : X.env.scope = sc
  f : X.fn = fn
theorem gl_ok {X : Cx} {N : List Str} {sc : Scope} {fn : Str → Bool} (A : At T L X N sc fn) {x : Str} (h : isGl sc x = true) : Gl X x := by
  unfold isGl at h
  show X.env.scope.names.lookup x = _
  rw [A.s]
  split at h <;> first | assumption | exact absurd h Bool.false_ne_true
theorem At.blk {X : Cx} {N : List Str} {sc : Scope} {fn : Str → Bool} (A : At T L X N sc fn) {scope : Scope} {own : List (Str × Nat)} (ok : BlkOk N sc scope own) (s : Shared) (H : Hp) (C : Addr) (cl : List (Str × Addr)) (fp : List Addr) :
    At T L (Blk X scope s H C cl fp) N (relS scope sc) (fnOf scope) where
  ok := ⟨A.ok.pr, A.ok.w, A.ok.K, A.ok.mg, A.ok.ba, A.ok.calm, A.ok.nd, A.ok.room, A.ok.gu, PassesOwn.never, ok.kind⟩
  n := A.n
  s := by show relS scope X.env.scope = _; rw [A.s]
  f := rfl
theorem eqS {x : Str} {y : Str} (h : (x == y) = true) : x = y := eq_of_beq h
theorem nodbg_ok {x : Str} (h : nodbg x = true) : (x == ("__debug__" : Str)) = false := by simpa [nodbg] using h
theorem isTup_ok {e : Expr} (h : isTupE e = true) : ∃ es k p, e = .Tuple es k p := by
  cases e <;> first | exact ⟨_, _, _, rfl⟩ | exact absurd h Bool.false_ne_true
theorem scEq_ok {v w : MV} (h : scEq v w = true) (hs : scalar v = true) : v = w := by
  cases v <;> cases w <;> simp_all [scEq, scalar]
end
end Snd
-- S22
namespace Snd
open PySem L2 Mi
section
variable {T : Tab} {Φ : Phi} {L : Nat} (TO : TOk T) (HF : AllF T Φ L)
theorem names_nil {es : IA} {xs : List Expr} (h : (match es with | .nil => xs.isEmpty | _ => !xs.isEmpty) = true) : (es = .nil ∧ xs = []) ∨ ∃ y ys, xs = y :: ys := by
  cases es with
  | nil => exact .inl ⟨rfl, by simpa using h⟩
  | _ =>
    cases xs with
    | nil => simp at h
    | cons y ys => exact .inr ⟨y, ys, rfl⟩
structure LcP (G : MT) (elt : IE) (tg : ITg) (it : II) (cond : IO) (own : List Nat) (N : List Str) (sc : Scope) (fn : Str → Bool) (x t i : Expr) (ifs : List Expr) (scope : Scope) : Prop where
  bk : BlkOk N sc scope (ownP N own)
  tm : tgM N (relS scope sc) (fnOf scope) tg t = true
  sl : ∀ j ∈ slots tg, j ∈ (ownP N own).map (·.2)
  bc : bC G cond N (relS scope sc) (fnOf scope) ifs = true
  be : bE G elt N (relS scope sc) (fnOf scope) x = true
  ns : noSet i = true
  bi : bI G it N sc fn t i = true
theorem lc_parts {G : MT} {elt : IE} {tg : ITg} {it : II} {cond : IO} {own : List Nat} {N : List Str} {sc : Scope} {fn : Str → Bool} {e : Expr} (h : bE G (.lc elt tg it cond own) N sc fn e = true) :
    ∃ x t i ifs scope pos, e = .ListComp x [⟨t, i, ifs, 0⟩] scope pos ∧ LcP G elt tg it cond own N sc fn x t i ifs scope := by
  simp only [bE] at h
  split at h
  · rename_i x t i ifs scope pos
    simp only [Bool.and_eq_true] at h
    obtain ⟨⟨⟨⟨⟨⟨h1, h2⟩, h3⟩, h4⟩, h5⟩, h6⟩, h7⟩ := h
    refine ⟨x, t, i, ifs, scope, pos, rfl, blkOk_by h1, h2, fun j hj => ?_, h4, h5, h6, h7⟩
    rw [ownP_snd]
    simpa using List.all_eq_true.mp h3 j hj
  · exact absurd h Bool.false_ne_true
structure DcP (G : MT) (k v : IE) (tg : ITg) (it : II) (own : List Nat) (N : List Str) (sc : Scope) (fn : Str → Bool) (x y t i : Expr) (scope : Scope) : Prop where
  bk : BlkOk N sc scope (ownP N own)
  tm : tgM N (relS scope sc) (fnOf scope) tg t = true
  sl : ∀ j ∈ slots tg, j ∈ (ownP N own).map (·.2)
  bk1 : bE G k N (relS scope sc) (fnOf scope) x = true
  be : bE G v N (relS scope sc) (fnOf scope) y = true
  ns : noSet i = true
  bi : bI G it N sc fn t i = true
theorem dc_parts {G : MT} {k v : IE} {tg : ITg} {it : II} {own : List Nat} {N : List Str} {sc : Scope} {fn : Str → Bool} {e : Expr} (h : bE G (.dc k v tg it own) N sc fn e = true) :
    ∃ x y t i scope pos, e = .DictComp x y [⟨t, i, [], 0⟩] scope pos ∧ DcP G k v tg it own N sc fn x y t i scope := by
  simp only [bE] at h
  split at h
  · rename_i x y t i scope pos
    simp only [Bool.and_eq_true] at h
    obtain ⟨⟨⟨⟨⟨⟨h1, h2⟩, h3⟩, h4⟩, h5⟩, h6⟩, h7⟩ := h
    refine ⟨x, y, t, i, scope, pos, rfl, blkOk_by h1, h2, fun j hj => ?_, h4, h5, h6, h7⟩
    rw [ownP_snd]
    simpa using List.all_eq_true.mp h3 j hj
  · exact absurd h Bool.false_ne_true
theorem dw_cases (ii : II) : Plain ii = true ∨ isDW ii := by
  cases ii <;> first | exact .inl rfl | exact .inr ⟨_, .inl rfl⟩ | exact .inr ⟨_, .inr (.inl rfl)⟩ | exact .inr ⟨_, .inr (.inr rfl)⟩
include TO HF
mutual
theorem mE : ∀ (ie : IE) {e : Expr} {X : Cx} {N : List Str} {sc : Scope} {fn : Str → Bool}, At T L X N sc fn → bE T.G ie N sc fn e = true → Res T Φ X ie e
  | .var i, e, X, N, sc, fn, A, h => by
    simp only [bE] at h
    split at h
    · rename_i x p
      simp only [Bool.and_eq_true, decide_eq_true_eq, Bool.not_eq_true'] at h
      obtain ⟨⟨⟨h1, h2⟩, h3⟩, h4⟩ := h
      exact Res.plain A.ok (good_var (by rw [A.n]; exact h1) (by rw [A.s]; exact isVis_ok h2) (nodbg_ok h3) h4) rfl
    · exact absurd h Bool.false_ne_true
  | .con v, e, X, N, sc, fn, A, h => by
    simp only [bE] at h
    split at h
    · exact Res.plain A.ok (good_const h) rfl
    · rename_i x p
      simp only [Bool.and_eq_true] at h
      obtain ⟨⟨h1, h2⟩, h3⟩ := h
      cases hl : T.G.gl.lookup x with
      | none => rw [hl] at h3; exact absurd h3 Bool.false_ne_true
      | some w =>
        rw [hl] at h3
        simp only [Bool.and_eq_true] at h3
        obtain rfl := scEq_ok h3.1 h3.2
        exact Res.plain A.ok (good_glob TO A.ok (gl_ok A h1) (nodbg_ok h2) hl) rfl
    · exact absurd h Bool.false_ne_true
  | .tup es, e, X, N, sc, fn, A, h => by
    simp only [bE] at h
    split at h
    · exact Res.plain A.ok (good_tup (mA es A h)) rfl
    · exact absurd h Bool.false_ne_true
  | .lst es, e, X, N, sc, fn, A, h => by
    simp only [bE] at h
    split at h
    · exact Res.plain A.ok (good_lst (mA es A h)) rfl
    · exact absurd h Bool.false_ne_true
  | .dic ps, e, X, N, sc, fn, A, h => by
    simp only [bE] at h
    split at h
    · rename_i ks vs p
      simp only [Bool.and_eq_true, decide_eq_true_eq] at h
      obtain ⟨⟨h1, h2⟩, h3⟩ := h
      have z := mP ps A h1
      cases ps with
      | nil =>
        simp only [Bool.and_eq_true, List.isEmpty_iff] at h3
        obtain ⟨rfl, rfl⟩ := h3
        exact Res.plain A.ok good_dnil rfl
      | cons k v r =>
        cases ks with
        | nil => simp at h3
        | cons k0 ks => exact Res.plain A.ok (good_dic z h2) rfl
    · exact absurd h Bool.false_ne_true
  | .bin o a b, e, X, N, sc, fn, A, h => by
    simp only [bE] at h
    split at h
    · simp only [Bool.and_eq_true] at h
      obtain ⟨⟨h1, h2⟩, h3⟩ := h
      obtain rfl := bopIs_eq h1
      exact Res.plain A.ok (good_bin A.ok (mE a A h2).ge (mE b A h3).ge) rfl
    · exact absurd h Bool.false_ne_true
  | .neg a, e, X, N, sc, fn, A, h => by
    simp only [bE] at h
    split at h
    · exact Res.plain A.ok (good_neg (mE a A h).ge) rfl
    · exact absurd h Bool.false_ne_true
  | .cmp o a b, e, X, N, sc, fn, A, h => by
    simp only [bE] at h
    split at h
    · simp only [Bool.and_eq_true] at h
      obtain ⟨⟨⟨h1, h2⟩, h3⟩, h4⟩ := h
      obtain rfl := copIs_eq h1
      exact ⟨good_cmp A.ok (mE a A h2).ge (mE b A h3).ge h4, good_cmpT A.ok (mE a A h2).ge (mE b A h3).ge h4, fun ⟨_, _, _, z⟩ => by cases z⟩
    · exact absurd h Bool.false_ne_true
  | .chn o1 o2 a b c, e, X, N, sc, fn, A, h => by
    simp only [bE] at h
    split at h
    · simp only [Bool.and_eq_true] at h
      obtain ⟨⟨⟨⟨⟨h0, h1⟩, h2⟩, h3⟩, h4⟩, h5⟩ := h
      obtain rfl := copIs_eq h0
      obtain rfl := copIs_eq h1
      exact ⟨good_chn A.ok (mE a A h2).ge (mE b A h3).ge (mE c A h4).ge h5, good_chnT A.ok (mE a A h2).ge (mE b A h3).ge (mE c A h4).ge h5, fun ⟨_, _, _, z⟩ => by cases z⟩
    · exact absurd h Bool.false_ne_true
  | .and a b, e, X, N, sc, fn, A, h => by
    simp only [bE] at h
    split at h
    · rename_i x y p
      simp only [Bool.and_eq_true] at h
      have ra := mE a A h.1
      have rb := mE b A h.2
      have w : GoodW T Φ X (.and a b) (.BoolOp .And [x, y] p) := good_andW ra.gt (good_andW1 rb.gt)
      exact ⟨good_and A.ok ra.ge (good_one rb.ge), w.t, fun _ => w⟩
    · rename_i x y z r p
      simp only [Bool.and_eq_true] at h
      have ra := mE a A h.1
      have rb := mE b A h.2
      have w : GoodW T Φ X (.and a b) (.BoolOp .And (x :: y :: z :: r) p) := good_andW ra.gt (rb.gw ⟨_, _, _, rfl⟩)
      exact ⟨good_and A.ok ra.ge rb.ge, w.t, fun _ => w⟩
    · exact absurd h Bool.false_ne_true
  | .or a b, e, X, N, sc, fn, A, h => by
    simp only [bE] at h
    split at h
    · rename_i x y p
      simp only [Bool.and_eq_true] at h
      have ra := mE a A h.1
      have rb := mE b A h.2
      have w : GoodW T Φ X (.or a b) (.BoolOp .Or [x, y] p) := good_orW ra.gt (good_orW1 rb.gt)
      exact ⟨good_or A.ok ra.ge (good_one rb.ge), w.t, fun _ => w⟩
    · rename_i x y z r p
      simp only [Bool.and_eq_true] at h
      have ra := mE a A h.1
      have rb := mE b A h.2
      have w : GoodW T Φ X (.or a b) (.BoolOp .Or (x :: y :: z :: r) p) := good_orW ra.gt (rb.gw ⟨_, _, _, rfl⟩)
      exact ⟨good_or A.ok ra.ge rb.ge, w.t, fun _ => w⟩
    · exact absurd h Bool.false_ne_true
  | .not a, e, X, N, sc, fn, A, h => by
    simp only [bE] at h
    split at h
    · have ra := mE a A h
      exact ⟨good_not A.ok ra.ge, good_notT A.ok ra.gt, fun ⟨_, _, _, z⟩ => by cases z⟩
    · exact absurd h Bool.false_ne_true
  | .ite c a b, e, X, N, sc, fn, A, h => by
    simp only [bE] at h
    split at h
    · simp only [Bool.and_eq_true] at h
      obtain ⟨⟨h1, h2⟩, h3⟩ := h
      have rc := mE c A h1
      have ra := mE a A h2
      have rb := mE b A h3
      exact ⟨good_ite rc.gt ra.ge rb.ge, good_iteT rc.gt ra.gt rb.gt, fun ⟨_, _, _, z⟩ => by cases z⟩
    · exact absurd h Bool.false_ne_true
  | .sub a i, e, X, N, sc, fn, A, h => by
    simp only [bE] at h
    split at h
    · simp only [Bool.and_eq_true] at h
      obtain ⟨⟨h1, h2⟩, h3⟩ := h
      exact Res.plain A.ok (good_sub TO A.ok HF (mE a A h1).ge (mE i A h2).ge h3) rfl
    · exact absurd h Bool.false_ne_true
  | .sli a lo hi, e, X, N, sc, fn, A, h => by
    simp only [bE] at h
    split at h
    · simp only [Bool.and_eq_true] at h
      obtain ⟨⟨h1, h2⟩, h3⟩ := h
      exact Res.plain A.ok (good_sli A.ok (mE a A h1).ge (mO lo A h2) (mO hi A h3)) rfl
    · exact absurd h Bool.false_ne_true
  | .rev a, e, X, N, sc, fn, A, h => by
    simp only [bE] at h
    split at h
    · simp only [Bool.and_eq_true, decide_eq_true_eq] at h
      obtain ⟨h1, rfl⟩ := h
      exact Res.plain A.ok (good_rev A.ok (mE a A h1).ge) rfl
    · exact absurd h Bool.false_ne_true
  | .fld a f, e, X, N, sc, fn, A, h => by
    simp only [bE] at h
    split at h
    · simp only [Bool.and_eq_true] at h
      obtain ⟨⟨h1, h2⟩, h3⟩ := h
      obtain rfl := eqS h2
      exact Res.plain A.ok (good_fld TO A.ok HF (mE a A h1).ge h3) rfl
    · exact absurd h Bool.false_ne_true
  | .call f es, e, X, N, sc, fn, A, h => by
    simp only [bE] at h
    split at h
    · simp only [Bool.and_eq_true] at h
      obtain ⟨⟨⟨⟨⟨⟨h1, h2⟩, h3⟩, h4⟩, h5⟩, h6⟩, h7⟩ := h
      obtain rfl := eqS h1
      rcases names_nil h7 with ⟨rfl, rfl⟩ | ⟨y, ys, rfl⟩
      · exact Res.plain A.ok (good_call0 TO A.ok HF (gl_ok A h2) (nodbg_ok h6) h3) rfl
      · exact Res.plain A.ok (good_call TO A.ok HF (mA es A h4) (gl_ok A h2) (nodbg_ok h6) h3 h5) rfl
    · exact absurd h Bool.false_ne_true
  | .new c es, e, X, N, sc, fn, A, h => by
    simp only [bE] at h
    split at h
    · simp only [Bool.and_eq_true] at h
      obtain ⟨⟨⟨⟨⟨⟨h1, h2⟩, h3⟩, h4⟩, h5⟩, h6⟩, h7⟩ := h
      obtain rfl := eqS h1
      rcases names_nil h7 with ⟨rfl, rfl⟩ | ⟨y, ys, rfl⟩
      · exact Res.plain A.ok (good_new0 TO A.ok HF (gl_ok A h2) (nodbg_ok h6) h3) rfl
      · exact Res.plain A.ok (good_new TO A.ok HF (mA es A h4) (gl_ok A h2) (nodbg_ok h6) h3 h5) rfl
    · exact absurd h Bool.false_ne_true
  | .mth a m es, e, X, N, sc, fn, A, h => by
    simp only [bE] at h
    split at h
    · simp only [Bool.and_eq_true, decide_eq_true_eq] at h
      obtain ⟨⟨⟨⟨⟨⟨⟨h1, h2⟩, h3⟩, h4⟩, h5⟩, h6⟩, h7⟩, h8⟩ := h
      obtain rfl := eqS h2
      rcases names_nil h8 with ⟨rfl, rfl⟩ | ⟨y, ys, rfl⟩
      · exact Res.plain A.ok (good_mth0 TO A.ok HF (mE a A h1).ge h3 h6) rfl
      · exact Res.plain A.ok (good_mth TO A.ok HF (mE a A h1).ge (mA es A h4) h3 h6 h5 h7) rfl
    · exact absurd h Bool.false_ne_true
  | .bmt a m es, e, X, N, sc, fn, A, h => by
    simp only [bE] at h
    split at h
    · simp only [Bool.and_eq_true, decide_eq_true_eq] at h
      obtain ⟨⟨⟨⟨⟨⟨h1, h2⟩, h3⟩, h4⟩, h5⟩, h6⟩, h7⟩ := h
      obtain rfl := eqS h2
      exact Res.plain A.ok (good_bmt A.ok (mE a A h1).ge (mA es A h4) h3 h6 h5 h7) rfl
    · exact absurd h Bool.false_ne_true
  | .blt b es, e, X, N, sc, fn, A, h => by
    simp only [bE] at h
    split at h
    · simp only [Bool.and_eq_true] at h
      obtain ⟨⟨⟨h1, h2⟩, h3⟩, h4⟩ := h
      obtain rfl := eqS h1
      exact Res.plain A.ok (good_blt TO A.ok (mA es A h3) (gl_ok A h2) h4) rfl
    · exact absurd h Bool.false_ne_true
  | .isi a t, e, X, N, sc, fn, A, h => by
    simp only [bE] at h
    split at h
    · simp only [Bool.and_eq_true, Bool.not_eq_true'] at h
      obtain ⟨⟨⟨⟨⟨⟨⟨⟨h1, h2⟩, h3⟩, h4⟩, h5⟩, h6⟩, h7⟩, h8⟩, h9⟩ := h
      obtain rfl := eqS h1
      obtain rfl := eqS h4
      exact Res.plain A.ok (good_isi TO A.ok (fun c z => by subst z; exact absurd h9 Bool.false_ne_true) (mE a A h3).ge (gl_ok A h2) (gl_ok A h5) h6 (nodbg_ok h7) (beq_eq_false_iff_ne.mp h8)) rfl
    · exact absurd h Bool.false_ne_true
  | .lrg a, e, X, N, sc, fn, A, h => by
    simp only [bE] at h
    split at h
    · simp only [Bool.and_eq_true] at h
      obtain ⟨⟨⟨⟨⟨h1, h2⟩, h3⟩, h4⟩, h5⟩, h6⟩ := h
      obtain rfl := eqS h1
      obtain rfl := eqS h3
      exact Res.plain A.ok (good_lrg TO A.ok (mE a A h5).ge (gl_ok A h2) (gl_ok A h4) h6) rfl
    · exact absurd h Bool.false_ne_true
  | .lc elt tg it cond own, e, X, N, sc, fn, A, h => by
    obtain ⟨x, t, i, ifs, scope, pos, rfl, p⟩ := lc_parts h
    obtain rfl := A.n
    obtain rfl := A.s
    have B := fun s H C cl fp => A.blk p.bk s H C cl fp
    have z : GoodE T Φ X (.lc elt tg it cond ((ownP X.N own).map (·.2))) (.ListComp x [⟨t, i, ifs, 0⟩] scope pos) := by
      rcases dw_cases it with hp | hd
      · exact good_lc A.ok ((mI it A p.bi).1 hp) p.bk p.tm p.sl (fun s H C cl fp => mC cond (B s H C cl fp) p.bc) (fun s H C cl fp => (mE elt (B s H C cl fp) p.be).ge) p.ns
      · exact good_lcD A.ok hd ((mI it A p.bi).2 hd) p.bk p.tm p.sl (fun s H C cl fp => mC cond (B s H C cl fp) p.bc) (fun s H C cl fp => (mE elt (B s H C cl fp) p.be).ge) p.ns
    rw [ownP_snd] at z
    exact Res.plain A.ok z rfl
  | .dc k v tg it own, e, X, N, sc, fn, A, h => by
    obtain ⟨x, y, t, i, scope, pos, rfl, p⟩ := dc_parts h
    obtain rfl := A.n
    obtain rfl := A.s
    have B := fun s H C cl fp => A.blk p.bk s H C cl fp
    have z : GoodE T Φ X (.dc k v tg it ((ownP X.N own).map (·.2))) (.DictComp x y [⟨t, i, [], 0⟩] scope pos) := by
      rcases dw_cases it with hp | hd
      · exact good_dc A.ok ((mI it A p.bi).1 hp) p.bk p.tm p.sl (fun s H C cl fp => (mE k (B s H C cl fp) p.bk1).ge) (fun s H C cl fp => (mE v (B s H C cl fp) p.be).ge) p.ns
      · exact good_dcD A.ok hd ((mI it A p.bi).2 hd) p.bk p.tm p.sl (fun s H C cl fp => (mE k (B s H C cl fp) p.bk1).ge) (fun s H C cl fp => (mE v (B s H C cl fp) p.be).ge) p.ns
    rw [ownP_snd] at z
    exact Res.plain A.ok z rfl
theorem mA : ∀ (ia : IA) {es : List Expr} {X : Cx} {N : List Str} {sc : Scope} {fn : Str → Bool}, At T L X N sc fn → bA T.G ia N sc fn es = true → GoodA T Φ X ia es
  | .nil, es, X, N, sc, fn, A, h => by
    simp only [bA, List.isEmpty_iff] at h
    subst h
    exact good_anil
  | .cons e r, es, X, N, sc, fn, A, h => by
    simp only [bA] at h
    split at h
    · simp only [Bool.and_eq_true] at h
      obtain ⟨⟨h1, h2⟩, h3⟩ := h
      exact good_acons (mE e A h2).ge (mA r A h3) h1
    · exact absurd h Bool.false_ne_true
  | .star e r, es, X, N, sc, fn, A, h => by
    simp only [bA] at h
    split at h
    · simp only [Bool.and_eq_true] at h
      exact good_astar A.ok (mE e A h.1).ge (mA r A h.2)
    · exact absurd h Bool.false_ne_true
theorem mP : ∀ (ip : IP) {ks : List (Option Expr)} {vs : List Expr} {X : Cx} {N : List Str} {sc : Scope} {fn : Str → Bool}, At T L X N sc fn → bP T.G ip N sc fn ks vs = true → GoodP T Φ X ip ks vs
  | .nil, ks, vs, X, N, sc, fn, A, h => by
    simp only [bP, Bool.and_eq_true, List.isEmpty_iff] at h
    obtain ⟨rfl, rfl⟩ := h
    exact good_pnil
  | .cons k v r, ks, vs, X, N, sc, fn, A, h => by
    simp only [bP] at h
    split at h
    · simp only [Bool.and_eq_true] at h
      obtain ⟨⟨h1, h2⟩, h3⟩ := h
      exact good_pcons (mE k A h1).ge (mE v A h2).ge (mP r A h3)
    · exact absurd h Bool.false_ne_true
theorem mO : ∀ (io : IO) {e : Option Expr} {X : Cx} {N : List Str} {sc : Scope} {fn : Str → Bool}, At T L X N sc fn → bO T.G io N sc fn e = true → GoodO T Φ X io e
  | .non, e, X, N, sc, fn, A, h => by
    simp only [bO, Option.isNone_iff_eq_none] at h
    subst h
    exact good_onon
  | .som a, e, X, N, sc, fn, A, h => by
    simp only [bO] at h
    split at h
    · exact good_osom (mE a A h).ge
    · exact absurd h Bool.false_ne_true
theorem mC : ∀ (io : IO) {es : List Expr} {X : Cx} {N : List Str} {sc : Scope} {fn : Str → Bool}, At T L X N sc fn → bC T.G io N sc fn es = true → GoodC T Φ X io es
  | .non, es, X, N, sc, fn, A, h => by
    simp only [bC, List.isEmpty_iff] at h
    subst h
    exact good_cnon
  | .som a, es, X, N, sc, fn, A, h => by
    simp only [bC] at h
    split at h
    · exact good_csom (mE a A h).gt
    · exact absurd h Bool.false_ne_true
theorem mI : ∀ (ii : II) {t e : Expr} {X : Cx} {N : List Str} {sc : Scope} {fn : Str → Bool}, At T L X N sc fn → bI T.G ii N sc fn t e = true → (Plain ii = true → GoodI T Φ X ii t e) ∧ (isDW ii → DictI T Φ X ii t e)
  | .ev a, t, e, X, N, sc, fn, A, h => by
    simp only [bI] at h
    exact ⟨fun _ => good_ev A.ok (mE a A h).ge, fun ⟨_, z⟩ => by rcases z with z | z | z <;> cases z⟩
  | .rng a, t, e, X, N, sc, fn, A, h => by
    simp only [bI] at h
    split at h
    · simp only [Bool.and_eq_true] at h
      obtain ⟨⟨⟨h1, h2⟩, h3⟩, h4⟩ := h
      obtain rfl := eqS h1
      exact ⟨fun _ => good_rng TO A.ok (mE a A h4).ge (gl_ok A h2) h3, fun ⟨_, z⟩ => by rcases z with z | z | z <;> cases z⟩
    · exact absurd h Bool.false_ne_true
  | .rng2 a b, t, e, X, N, sc, fn, A, h => by
    simp only [bI] at h
    split at h
    · simp only [Bool.and_eq_true] at h
      obtain ⟨⟨⟨⟨h1, h2⟩, h3⟩, h4⟩, h5⟩ := h
      obtain rfl := eqS h1
      exact ⟨fun _ => good_rng2 TO A.ok (mE a A h4).ge (mE b A h5).ge (gl_ok A h2) h3, fun ⟨_, z⟩ => by rcases z with z | z | z <;> cases z⟩
    · exact absurd h Bool.false_ne_true
  | .enu a, t, e, X, N, sc, fn, A, h => by
    simp only [bI] at h
    split at h
    · simp only [Bool.and_eq_true] at h
      obtain ⟨⟨⟨⟨h1, h2⟩, h3⟩, h4⟩, h5⟩ := h
      obtain rfl := eqS h1
      obtain ⟨es, k, p, rfl⟩ := isTup_ok h5
      exact ⟨fun _ => good_enu TO A.ok (mE a A h4).ge (gl_ok A h2) h3, fun ⟨_, z⟩ => by rcases z with z | z | z <;> cases z⟩
    · exact absurd h Bool.false_ne_true
  | .zip a b, t, e, X, N, sc, fn, A, h => by
    simp only [bI] at h
    split at h
    · simp only [Bool.and_eq_true] at h
      obtain ⟨⟨⟨⟨⟨h1, h2⟩, h3⟩, h4⟩, h5⟩, h6⟩ := h
      obtain rfl := eqS h1
      obtain ⟨es, k, p, rfl⟩ := isTup_ok h6
      exact ⟨fun _ => good_zip TO A.ok (mE a A h4).ge (mE b A h5).ge (gl_ok A h2) h3, fun ⟨_, z⟩ => by rcases z with z | z | z <;> cases z⟩
    · exact absurd h Bool.false_ne_true
  | .keys p, t, e, X, N, sc, fn, A, h => by
    simp only [bI] at h
    exact ⟨fun z => absurd z Bool.false_ne_true, fun _ => dict_keys (mE p A h).ge⟩
  | .items p, t, e, X, N, sc, fn, A, h => by
    simp only [bI] at h
    split at h
    · simp only [Bool.and_eq_true] at h
      obtain ⟨⟨⟨⟨h1, h2⟩, h3⟩, h4⟩, h5⟩ := h
      obtain rfl := eqS h1
      obtain ⟨es, k, q, rfl⟩ := isTup_ok h5
      exact ⟨fun z => absurd z Bool.false_ne_true, fun _ => dict_items (mE p A h2).ge h3 h4⟩
    · exact absurd h Bool.false_ne_true
  | .vals p, t, e, X, N, sc, fn, A, h => by
    simp only [bI] at h
    split at h
    · simp only [Bool.and_eq_true] at h
      obtain ⟨⟨⟨h1, h2⟩, h3⟩, h4⟩ := h
      obtain rfl := eqS h1
      exact ⟨fun z => absurd z Bool.false_ne_true, fun _ => dict_vals (mE p A h2).ge h3 h4⟩
    · exact absurd h Bool.false_ne_true
end
end
end Snd
-- S23
namespace Snd
open PySem L2 Mi

/-! ### what is stored how -/
/-- name = value: whether the block of a comprehension hands its value on -/
def swVal (sc : Scope) (value : Expr) (y : Str) (py : Pos) : Bool :=
  match value with
  | .ListComp _ _ s p => decide (sc.names.lookup y = some .local) && (py.line == p.line) && !(s.names.any fun (n, k) => n == y && (k == .local || k == .cell))
  | .SetComp _ _ s p => decide (sc.names.lookup y = some .local) && (py.line == p.line) && !(s.names.any fun (n, k) => n == y && (k == .local || k == .cell))
  | .DictComp _ _ _ s p => decide (sc.names.lookup y = some .local) && (py.line == p.line) && !(s.names.any fun (n, k) => n == y && (k == .local || k == .cell))
  | _ => false
theorem beq_loc (o : Option NameKind) : (o == some NameKind.local) = decide (o = some .local) := by
  cases o with
  | none => rfl
  | some k => cases k <;> rfl
theorem swVal_ok {env : PySem.Env} (hk : env.scope.kind = .function) (value : Expr) (y : Str) (py : Pos) (l : Nat) : swapsWith value (some (.Name y py)) l env = pure (swVal env.scope value y py) := by
  have hb : env.blockKind = .function := by unfold Env.blockKind; rw [hk]; rfl
  have e : ∀ x, env.kindOf x = env.scope.names.lookup x := fun _ => rfl
  cases value <;> first | rfl | (unfold swapsWith swVal; simp only [hb, e, beq_loc, Expr.pos]; rfl)
/-- a, b = x, y -/
def swN (sc : Scope) (ts vs : List Expr) : Option (Option (List Str)) :=
  if !(ts.length == 2 || ts.length == 3) || vs.length != ts.length then some none
  else if (vs.any fun | .Starred .. => true | _ => false) = true then some none
  else
    let line := (ts.head?.map (·.pos.line)).getD 0
    let names := ts.filterMap fun
      | .Name id pos => if sc.names.lookup id == some .local && pos.line == line then some id else none
      | _ => none
    if (names.length != ts.length || names.eraseDups.length != names.length) = true then some none
    else if vs.all (foldedForSure 8) = true then some none
    else if vs.all (constantsAlone 8) = true then none
    else some (some names)
theorem swN_ok {env : PySem.Env} (hk : env.scope.kind = .function) {ts vs : List Expr} {k k2 : Nat} {p p2 : Pos} {o : Option (List Str)} (h : swN env.scope ts vs = some o) : swappedStores [.Tuple ts k p] (.Tuple vs k2 p2) env = pure o := by
  have hb : env.blockKind = .function := by unfold Env.blockKind; rw [hk]; rfl
  have e : ∀ x, env.kindOf x = env.scope.names.lookup x := fun _ => rfl
  unfold swN at h
  unfold swappedStores
  simp only [hb, e]
  split at h
  · rename_i c
    cases h
    simp only [Bool.or_eq_true] at c ⊢
    rw [if_pos (by rcases c with c | c; exact .inl (.inl c); exact .inl (.inr c))]
  · rename_i c
    rw [if_neg (by simpa using c)]
    split at h
    · rename_i c2
      cases h
      split
      · rfl
      · rename_i d
        exact absurd c2 d
    · rename_i c2
      split
      · rename_i d
        exact absurd d c2
      · dsimp only at h ⊢
        split at h
        · rename_i c3
          cases h
          split
          · rfl
          · rename_i d
            exact absurd c3 d
        · rename_i c3
          split
          · rename_i d
            exact absurd d c3
          · split at h
            · rename_i c4
              cases h
              rw [if_pos c4]
            · rename_i c4
              rw [if_neg c4]
              split at h
              · cases h
              · rename_i c5
                rw [if_neg c5]
                cases h
                rfl
def isLcE : IE → Bool
  | .lc _ _ _ _ _ => true
  | .dc _ _ _ _ _ => true
  | _ => false
def tupOf : Expr → Option (List Expr)
  | .Tuple es _ _ => some es
  | _ => none
mutual
def bS (G : MT) : IS → List Str → Scope → (Str → Bool) → Stmt → Bool
  | .expr a, N, sc, fn, s => (match s with
    | .Expr e _ => noComp e && bE G a N sc fn e
    | _ => false)
  | .asg tg a, N, sc, fn, s => (match s with
    | .Assign [t] e p => (match tg with
      | .name i => (match t with
        | .Name y py => decide (N[i]? = some y) && isLoc sc fn y && bE G a N sc fn e && (!swVal sc e y py || isLcE a)
        | _ => false)
      | .tup ns => (match t with
        | .Tuple es k tp => tgM N sc fn (.tup ns) t && bE G a N sc fn e && (match tupOf e with | some vs => decide (swN sc es vs = some none) | none => true)
        | _ => false))
    | _ => false)
  | .par ns as, N, sc, fn, s => (match s with
    | .Assign [.Tuple ts k tp] (.Tuple vs k2 p2) p => (match ns, ts, vs with
      | [i, j], [.Name x px, .Name y py], [a, b] => decide (N[i]? = some x) && decide (N[j]? = some y) && decide (i ≠ j) && decide (sc.names.lookup x = some .local) && decide (sc.names.lookup y = some .local) && bA G as N sc fn [a, b] && decide (swN sc ts vs = some (some [x, y]))
      | [i, j, l], [.Name x px, .Name y py, .Name z pz], [a, b, c] => decide (N[i]? = some x) && decide (N[j]? = some y) && decide (N[l]? = some z) && decide (i ≠ j) && decide (i ≠ l) && decide (j ≠ l) && decide (sc.names.lookup x = some .local) && decide (sc.names.lookup y = some .local) && decide (sc.names.lookup z = some .local) &&
          bA G as N sc fn [a, b, c] && decide (swN sc ts vs = some (some [x, y, z]))
      | _, _, _ => false)
    | _ => false)
  | .setsub o i a, N, sc, fn, s => (match s with
    | .Assign [.Subscript x y _] e p => bE G o N sc fn x && bE G i N sc fn y && bE G a N sc fn e && okIx y
    | _ => false)
  | .setfld o f a, N, sc, fn, s => (match s with
    | .Assign [.Attribute x g _] e p => bE G o N sc fn x && (g == Str.ofString f) && bE G a N sc fn e
    | _ => false)
  | .iff c a b, N, sc, fn, s => (match s with
    | .If e x y _ => bE G c N sc fn e && bSs G a N sc fn x && bSs G b N sc fn y
    | _ => false)
  | .whl c b, N, sc, fn, s => (match s with
    | .While e x [] _ => bE G c N sc fn e && bSs G b N sc fn x
    | _ => false)
  | .for_ tg ii b, N, sc, fn, s => (match s with
    | .For t i x [] _ => tgM N sc fn tg t && bI G ii N sc fn t i && noSet i && bSs G b N sc fn x
    | _ => false)
  | .ret a, N, sc, fn, s => (match s with
    | .Return (some e) _ => bE G a N sc fn e
    | _ => false)
  | .retN, N, sc, fn, s => (match s with
    | .Return none _ => true
    | _ => false)
  | .pass, N, sc, fn, s => (match s with
    | .Pass _ => true
    | _ => false)
  | .brk, N, sc, fn, s => (match s with
    | .Break _ => true
    | _ => false)
  | .cont, N, sc, fn, s => (match s with
    | .Continue _ => true
    | _ => false)
  | .raise _ _, N, sc, fn, s => false
  | .bad, N, sc, fn, s => true
def bSs (G : MT) : List IS → List Str → Scope → (Str → Bool) → List Stmt → Bool
  | [], N, sc, fn, ss => ss.isEmpty
  | i :: r, N, sc, fn, ss => (match ss with
    | s :: ss => bS G i N sc fn s && bSs G r N sc fn ss
    | [] => false)
end
section
variable {T : Tab} {Φ : Phi} {L : Nat} (TO : TOk T) (HF : AllF T Φ L)
theorem attr_swap {e x : Expr} {g : Str} {p : Pos} (n : Nat) (env : PySem.Env) : swapsWith e (some (.Attribute x g p)) n env = pure false := by
  cases e <;> rfl
include TO HF
mutual
theorem mS : ∀ (is : IS) {s : Stmt} {X : Cx} {N : List Str} {sc : Scope} {fn : Str → Bool}, At T L X N sc fn → bS T.G is N sc fn s = true → GoodS T Φ X is s
  | .expr a, s, X, N, sc, fn, A, h => by
    simp only [bS] at h
    split at h
    · simp only [Bool.and_eq_true] at h
      exact good_expr (mE TO HF a A h.2).ge h.1
    · exact absurd h Bool.false_ne_true
  | .asg (.name i) a, s, X, N, sc, fn, A, h => by
    simp only [bS] at h
    split at h
    · rename_i t e p
      split at h
      · rename_i y py
        simp only [Bool.and_eq_true, decide_eq_true_eq] at h
        obtain ⟨⟨⟨h1, h2⟩, h3⟩, h4⟩ := h
        obtain rfl := A.n
        obtain rfl := A.s
        obtain rfl := A.f
        cases hv : swVal X.env.scope e y py with
        | false => exact good_set A.ok h1 h2 (mE TO HF a A h3).ge (by rw [swVal_ok A.ok.kind, hv])
        | true =>
          have hsw : ∀ l, swapsWith e (some (.Name y py)) l X.env = pure true := fun l => by rw [swVal_ok A.ok.kind, hv]
          rw [hv] at h4
          replace h4 : isLcE a = true := h4
          cases a <;> first | exact absurd h4 Bool.false_ne_true | skip
          · rename_i elt tg it cond own
            obtain ⟨x, t, i', ifs, scope, pos, rfl, q⟩ := lc_parts h3
            have hyl : X.env.scope.names.lookup y = some .local := by
              simp only [swVal, Bool.and_eq_true, decide_eq_true_eq] at hv
              exact hv.1.1
            have B := fun s H C cl fp => A.blk q.bk s H C cl fp
            have z : GoodS T Φ X (.asg (.name i) (.lc elt tg it cond ((ownP X.N own).map (·.2)))) (.Assign [.Name y py] (.ListComp x [⟨t, i', ifs, 0⟩] scope pos) p) := by
              rcases dw_cases it with hp | hd
              · exact good_setLc A.ok h1 hyl (hsw _) ((mI TO HF it A q.bi).1 hp) q.bk q.tm q.sl (fun s H C cl fp => mC TO HF cond (B s H C cl fp) q.bc) (fun s H C cl fp => (mE TO HF elt (B s H C cl fp) q.be).ge) q.ns
              · exact good_setLcD A.ok h1 hyl (hsw _) hd ((mI TO HF it A q.bi).2 hd) q.bk q.tm q.sl (fun s H C cl fp => mC TO HF cond (B s H C cl fp) q.bc) (fun s H C cl fp => (mE TO HF elt (B s H C cl fp) q.be).ge) q.ns
            rw [ownP_snd] at z
            exact z
          · rename_i k v tg it own
            obtain ⟨x, y', t, i', scope, pos, rfl, q⟩ := dc_parts h3
            have hyl : X.env.scope.names.lookup y = some .local := by
              simp only [swVal, Bool.and_eq_true, decide_eq_true_eq] at hv
              exact hv.1.1
            have B := fun s H C cl fp => A.blk q.bk s H C cl fp
            have z : GoodS T Φ X (.asg (.name i) (.dc k v tg it ((ownP X.N own).map (·.2)))) (.Assign [.Name y py] (.DictComp x y' [⟨t, i', [], 0⟩] scope pos) p) := by
              rcases dw_cases it with hp | hd
              · exact good_setDc A.ok h1 hyl (hsw _) ((mI TO HF it A q.bi).1 hp) q.bk q.tm q.sl (fun s H C cl fp => (mE TO HF k (B s H C cl fp) q.bk1).ge) (fun s H C cl fp => (mE TO HF v (B s H C cl fp) q.be).ge) q.ns
              · exact good_setDcD A.ok h1 hyl (hsw _) hd ((mI TO HF it A q.bi).2 hd) q.bk q.tm q.sl (fun s H C cl fp => (mE TO HF k (B s H C cl fp) q.bk1).ge) (fun s H C cl fp => (mE TO HF v (B s H C cl fp) q.be).ge) q.ns
            rw [ownP_snd] at z
            exact z
      · exact absurd h Bool.false_ne_true
    · exact absurd h Bool.false_ne_true
  | .asg (.tup ns) a, s, X, N, sc, fn, A, h => by
    simp only [bS] at h
    split at h
    · rename_i t e p
      split at h
      · rename_i es k tp
        simp only [Bool.and_eq_true] at h
        obtain ⟨⟨h1, h2⟩, h4⟩ := h
        obtain rfl := A.n
        obtain rfl := A.s
        obtain rfl := A.f
        refine good_tupS A.ok h1 (mE TO HF a A h2).ge ?_
        cases e <;> first | rfl | skip
        rename_i vs k2 p2
        have h4 : decide (swN X.env.scope es vs = some none) = true := h4
        exact swN_ok A.ok.kind (of_decide_eq_true h4)
      · exact absurd h Bool.false_ne_true
    · exact absurd h Bool.false_ne_true
  | .par ns as, s, X, N, sc, fn, A, h => by
    simp only [bS] at h
    split at h
    · split at h
      · simp only [Bool.and_eq_true, decide_eq_true_eq] at h
        obtain ⟨⟨⟨⟨⟨⟨h1, h2⟩, h3⟩, h4⟩, h5⟩, h6⟩, h7⟩ := h
        have hA := mA TO HF as A h6
        obtain rfl := A.n
        obtain rfl := A.s
        exact good_par2 A.ok h1 h2 h3 h4 h5 hA (swN_ok A.ok.kind h7)
      · simp only [Bool.and_eq_true, decide_eq_true_eq] at h
        obtain ⟨⟨⟨⟨⟨⟨⟨⟨⟨⟨h1, h2⟩, h3⟩, h4⟩, h5⟩, h6⟩, h7⟩, h8⟩, h9⟩, h10⟩, h11⟩ := h
        have hA := mA TO HF as A h10
        obtain rfl := A.n
        obtain rfl := A.s
        exact good_par3 A.ok h1 h2 h3 h4 h5 h6 h7 h8 h9 hA (swN_ok A.ok.kind h11)
      · exact absurd h Bool.false_ne_true
    · exact absurd h Bool.false_ne_true
  | .setsub o i a, s, X, N, sc, fn, A, h => by
    simp only [bS] at h
    split at h
    · simp only [Bool.and_eq_true] at h
      obtain ⟨⟨⟨h1, h2⟩, h3⟩, h5⟩ := h
      exact good_setsub A.ok (mE TO HF o A h1).ge (mE TO HF i A h2).ge (mE TO HF a A h3).ge h5
    · exact absurd h Bool.false_ne_true
  | .setfld o f a, s, X, N, sc, fn, A, h => by
    simp only [bS] at h
    split at h
    · simp only [Bool.and_eq_true] at h
      obtain ⟨⟨h1, h2⟩, h4⟩ := h
      obtain rfl := eqS h2
      exact good_setfld TO A.ok (mE TO HF o A h1).ge (mE TO HF a A h4).ge (.inr (attr_swap _ _))
    · exact absurd h Bool.false_ne_true
  | .iff c a b, s, X, N, sc, fn, A, h => by
    simp only [bS] at h
    split at h
    · simp only [Bool.and_eq_true] at h
      obtain ⟨⟨h1, h2⟩, h3⟩ := h
      exact good_if (mE TO HF c A h1).gt (mSs a A h2) (mSs b A h3)
    · exact absurd h Bool.false_ne_true
  | .whl c b, s, X, N, sc, fn, A, h => by
    simp only [bS] at h
    split at h
    · simp only [Bool.and_eq_true] at h
      exact good_while A.ok.po (mE TO HF c A h.1).gt (mSs b A h.2)
    · exact absurd h Bool.false_ne_true
  | .for_ tg ii b, s, X, N, sc, fn, A, h => by
    simp only [bS] at h
    split at h
    · simp only [Bool.and_eq_true] at h
      obtain ⟨⟨⟨h1, h2⟩, h3⟩, h4⟩ := h
      have hI := mI TO HF ii A h2
      have hb := mSs b A h4
      rw [← A.n, ← A.s, ← A.f] at h1
      rcases dw_cases ii with hp | hd
      · exact good_for A.ok.po A.ok hp (hI.1 hp) h1 hb h3
      · exact good_forD A.ok.po A.ok hd (hI.2 hd) h1 hb h3
    · exact absurd h Bool.false_ne_true
  | .ret a, s, X, N, sc, fn, A, h => by
    simp only [bS] at h
    split at h
    · exact good_ret (mE TO HF a A h).ge
    · exact absurd h Bool.false_ne_true
  | .retN, s, X, N, sc, fn, A, h => by
    simp only [bS] at h
    split at h
    · exact good_retN
    · exact absurd h Bool.false_ne_true
  | .pass, s, X, N, sc, fn, A, h => by
    simp only [bS] at h
    split at h
    · exact good_pass
    · exact absurd h Bool.false_ne_true
  | .brk, s, X, N, sc, fn, A, h => by
    simp only [bS] at h
    split at h
    · exact good_brk
    · exact absurd h Bool.false_ne_true
  | .cont, s, X, N, sc, fn, A, h => by
    simp only [bS] at h
    split at h
    · exact good_cont
    · exact absurd h Bool.false_ne_true
  | .raise _ _, s, X, N, sc, fn, A, h => by
    simp only [bS] at h
    exact absurd h Bool.false_ne_true
  | .bad, s, X, N, sc, fn, A, h => good_bad
theorem mSs : ∀ (is : List IS) {ss : List Stmt} {X : Cx} {N : List Str} {sc : Scope} {fn : Str → Bool}, At T L X N sc fn → bSs T.G is N sc fn ss = true → GoodSs T Φ X is ss
  | [], ss, X, N, sc, fn, A, h => by
    simp only [bSs, List.isEmpty_iff] at h
    subst h
    exact good_nil
  | i :: r, ss, X, N, sc, fn, A, h => by
    simp only [bSs] at h
    split at h
    · simp only [Bool.and_eq_true] at h
      exact good_cons (mS i A h.1) (mSs r A h.2)
    · exact absurd h Bool.false_ne_true
end
end
end Snd
-- S24
namespace Snd
open PySem L2 Mi
section
variable {T : Tab}
theorem start_rel {g : Mu} {I : Hp} {xs : List MV} {vs : List V} {N : List Str} {n : Nat} (r : RepVs T.K g I xs vs) (hn : n = N.length - vs.length) : EnvRel T.K g I (xs.map some ++ List.replicate n none) (L2.start N vs) := by
  have hl := r.len
  refine ⟨by simp [L2.start, hl, hn], fun i x h => ?_⟩
  have hi : i < xs.length := by
    rcases Nat.lt_or_ge i xs.length with z | z
    · exact z
    · rw [List.getElem?_append_right (by simpa using z), List.getElem?_replicate] at h
      split at h <;> cases h
  rw [List.getElem?_append_left (by simpa using hi), List.getElem?_map] at h
  cases hx : xs[i]? with
  | none => rw [hx] at h; cases h
  | some y =>
    rw [hx] at h
    have h : some (some y) = some (some x) := h
    cases h
    obtain ⟨v, hv, rv⟩ := r.get hx
    refine ⟨v, ?_, rv⟩
    unfold L2.start
    rw [List.getElem?_append_left (by simpa [hl] using hi), List.getElem?_map, hv]
    rfl
/-- a def of the text, its model -/
structure DefOk (T : Tab) (q : String) (a : Addr) : Prop where
  ex : ∃ (d : IDef) (x qual : Str) (st : Stmt) (fd : FuncData) (N ps : List Str), T.P.df q = some d ∧ L2.Fun T.K x qual st a fd ∧ FnScope N ps (defScope st) ∧ Binds T.K fd ps [] ∧ d.ns = N.length ∧ d.np = ps.length ∧
    bSs T.G d.body N (defScope st) (fun _ => true) (defBody st) = true
theorem fnc_of (TO : TOk T) {k L : Nat} (HF : AllF T (sem T.P k) L) {q : String} {a : Addr} (D : DefOk T q a) : FnC T (sem T.P (k + 1)) (L + 3) q a := by
  obtain ⟨d, x, qual, st, fd, N, ps, hdf, F, Sc, hb, hns, hnp, hm⟩ := D.ex
  obtain ⟨oc, od, kV, doc, pm, an, cdv, ct, osl, rfl, lk, hcd⟩ := F.ex
  intro A outer s H us vs xs Q g I Fr sto hr hgu e0 rus S rx ⟨d', hd', hlen, hwp⟩
  rw [hdf] at hd'; cases hd'
  have hvl : vs.length = ps.length := by rw [rx.len, hlen, hnp]
  have hul : us.length = ps.length := by rw [← rus.length, hvl]
  have KX : T.K.In s.heap := e0.mod.kin.keeps fun _ _ e => (e0.bs _ _ e).1
  have hlim : s.heap.NoLimit := e0.mod.nolimit.keeps fun _ _ e => (e0.bs _ _ e).1
  have hk : ∀ y ∈ ps.zip us, (defScope st).names.lookup y.1 = some .local ∨ ((defScope st).names.lookup y.1 = some .cell ∧ ((cellsFrom (s.heap.objs.size + 1) (defScope st).names []).lookup y.1).isSome = true) := by
    intro y hy
    rcases Sc.par y.1 (List.of_mem_zip (a := y.1) (b := y.2) hy).1 with z | z
    · exact .inl z
    · exact .inr ⟨z, PySem.W.cellsFrom_some _ _ _ (.inl z)⟩
  have hbd := hb s us KX (by rw [List.append_nil]; exact hul)
  rw [List.append_nil] at hbd
  refine codeAny_call_function hr.depth (KX _ _ lk) rfl Sc.co Sc.gen rfl (PySem.W.codeRec_of KX hcd) (hbd _ _ _ _ ?_)
  refine wpAny_newFunctionEnv_cells Sc.kind hk fun env he s1 z => ?_
  subst he
  refine ⟨hlim.keeps z.toInCall.keep, codeAny_func ?_⟩
  have I0 : Inv (cxOf CX0 T.prog T.w T.K T.mg T.base N qual (defScope st) a cdv A outer s H E0) [] (L2.start N vs) H s1 := inv_start Sc hr.hd e0 hvl rus z
  have C : COk T L (cxOf CX0 T.prog T.w T.K T.mg T.base N qual (defScope st) a cdv A outer s H E0).nox :=
    ⟨rfl, rfl, rfl, rfl, rfl, rfl, Sc.nd, Room.deeper (k := L + 2) hr _, hgu, PassesOwn.never, Sc.kind⟩
  have At0 : At T L (cxOf CX0 T.prog T.w T.K T.mg T.base N qual (defScope st) a cdv A outer s H E0).nox N (defScope st) (fun _ => true) := ⟨C, rfl, rfl, rfl⟩
  have er : EnvRel T.K g I (xs.map some ++ List.replicate (d.ns - d.np) none) (L2.start N vs) := start_rel rx (by rw [hns, hnp, hvl])
  have run := mSs TO HF d.body At0 hm g I Fr H sto _ (L2.start N vs) ⟨fun _ st' => Q .non st', Q, fun _ _ => False, fun _ _ => False, fun c v _ st' => NoX c v st'⟩ (fun _ _ _ _ z => z) er S hwp
  refine wpAny_mono (run [] s1 (I0.wish _)) (fun fl s' hs => ?_) fun _ _ z => False.elim z
  cases fl with
  | ret u =>
    obtain ⟨v, σ', H', J, rv, q'⟩ := hs
    exact ⟨v, H', J.os, J.bare, J.base, J.hok, rv, q'⟩
  | next =>
    obtain ⟨σ', H', J, g', I', e', st', a1, b1, S', _, q'⟩ := hs
    exact ⟨.non, H', J.os, J.bare, J.base, J.hok, rfl, g', I', .non, st', a1, b1, S', rfl, q'⟩
  | brk =>
    obtain ⟨σ', H', J, g', I', e', st', a1, b1, S', _, q'⟩ := hs
    exact q'.elim
  | cont =>
    obtain ⟨σ', H', J, g', I', e', st', a1, b1, S', _, q'⟩ := hs
    exact q'.elim
/-- every def, k calls deep -/
theorem all_fn (TO : TOk T) (D : ∀ q a, T.ad q = some a → DefOk T q a) : ∀ k : Nat, AllF T (sem T.P k) (3 * k)
  | 0 => fun q a _ A outer s H us vs xs Q g I F st _ _ _ _ _ _ h => (show False from h).elim
  | k + 1 => fun q a ha => fnc_of TO (all_fn TO D k) (D q a ha)

/-! ### the law's call -/
open PySem.Spec PyProof.Rows in
theorem law_callG {mb : Str → Option Value} {fa a : Addr} {s₁ : Shared} {vs : List Value} {ns : List Int} {Pg : Program} {w : World} {K : PySem.W.Frag} {mg : Str → Option Value}
    (KX : K.In s₁.heap) (hns : s₁.heap.Ns mainGlobals mg) (hb : s₁.heap.Ns builtinsNs mb) (hbb : ∀ x : Str, x ≠ "__name__" → mb x = bootBuiltins x) (hlim : s₁.heap.NoLimit) (hg : s₁.gens = #[])
    (ha : s₁.heap.get? a = some { cls := .type "list", data := .seq vs.toArray }) (hi : IntsAre vs ns) (hl : ns.length ≤ sizeLine)
    (F : ∀ base : Heap, K.In base → base.Ns mainGlobals mg → ∀ H : Hp, Only H → SqL K H a (ns.map V.int) → Env0 Pg w K mg base callerA [] s₁ H →
      codeAny (model Pg w) callerA (.call (.ref fa) ⟨[.ref a], []⟩) (CR CX0 [] Pg w H s₁ (fun v _ => v = .bl true) E0) s₁) :
    codeAny (model Pg w) callerA (.call (.ref fa) ⟨[.ref a], []⟩) (fun r t => r = .ok (.ret (.bool true)) ∧ OldK s₁.heap t.heap ∧ t.os = s₁.os ∧ AllBare t.gens) s₁ := by
  have rv := vals_ints hi
  have hlv := hi.length
  have go : ∀ H : Hp, Only H → SqL K H a (ns.map V.int) → HOk Pg w H s₁.heap → (∀ b, H b ≠ none → b = a) → (H a ≠ none → K.lookup a = none) →
      codeAny (model Pg w) callerA (.call (.ref fa) ⟨[.ref a], []⟩) (fun r t => r = .ok (.ret (.bool true)) ∧ OldK s₁.heap t.heap ∧ t.os = s₁.os ∧ AllBare t.gens) s₁ := by
    intro H hO hS hok only hK
    have at_ : ∀ {b : Addr} {o : Obj}, s₁.heap.get? b = some o → H b = none → (hidT s₁.heap H).get? b = some o := fun e n => hidT_get e n
    have free : ∀ {b : Addr} {o : Obj} {es : Array DictEntry} {ep : Nat}, s₁.heap.get? b = some o → o.data = .dict es ep → H b = none := by
      intro b o es ep e d
      cases q : H b with
      | none => rfl
      | some u =>
        obtain rfl : b = a := only b (by rw [q]; simp)
        rw [ha] at e; cases e
        exact absurd (show Data.seq vs.toArray _ = Data.dict es ep from d) (fun z => nomatch z)
    have keep : ∀ {b : Addr} {m : Str → Option Value}, s₁.heap.Ns b m → (hidT s₁.heap H).Ns b m := fun ⟨o, es, ep, e, d, r⟩ => ⟨o, es, ep, at_ e (free e d), d, r⟩
    have KB : K.In (hidT s₁.heap H) := by
      intro b o e
      refine at_ (KX b o e) ?_
      cases q : H b with
      | none => rfl
      | some u =>
        obtain rfl : b = a := only b (by rw [q]; simp)
        rw [hK (by rw [q]; simp)] at e
        cases e
    have M : Mod K mg (hidT s₁.heap H) := ⟨KB, keep hns, ⟨mb, keep hb, hbb⟩, hlim.elim fun mc z => ⟨mc, keep z.1, z.2⟩⟩
    have e0 : Env0 Pg w K mg (hidT s₁.heap H) callerA [] s₁ H := ⟨rfl, M, fun _ _ e => of_hidT e, Nat.le_of_eq (hidT_size _ _), trivial, fun _ z => absurd z (by simp [frs]), hok, .of_eq hg⟩
    refine codeAny_mono (F _ KB (keep hns) H hO hS e0) fun r t h => ?_
    cases r with
    | error e => exact h.elim
    | ok fl =>
      cases fl with
      | ret u =>
        obtain ⟨v, H', os, bare, un, hok', r', q⟩ := h
        have q : v = .bl true := q
        subst q
        obtain rfl : u = Value.bool true := r'
        refine ⟨rfl, OldK.of_keep fun b o e => ?_, os, bare⟩
        cases z : H b with
        | none => exact un.keep b o e z (fun y => by simp [frs] at y) (by simp)
        | some w2 =>
          rcases hO b with y | ⟨ob, ys, y⟩
          · rw [z] at y; cases y
          · obtain ⟨e1, _⟩ := hok b _ y
            obtain ⟨e2, _⟩ := hok' b _ (un.frzs b ob _ y)
            rw [e] at e1; cases e1
            exact e2
      | next => exact h.elim
      | brk => exact h.elim
      | cont => exact h.elim
  cases hk : K.lookup a with
  | some o =>
    have e := KX a o hk
    rw [ha] at e; cases e
    exact go (fun _ => none) (fun _ => .inl rfl) (.inr ⟨_, vs.toArray, _, hk, rfl, rfl, rfl, by rw [List.size_toArray, hlv]; exact hl, by simpa using rv⟩) (fun _ _ z => nomatch z) (fun _ z => absurd rfl z) fun z => absurd rfl z
  | none =>
    let O : Obj := { cls := .type "list", data := .seq vs.toArray }
    have h0 : ∀ b, (if b = a then some (HO.frz O (.lst (ns.map V.int))) else none) = some (HO.frz O (.lst (ns.map V.int))) ∨ b ≠ a := fun b => by
      by_cases z : b = a
      · exact .inl (if_pos z)
      · exact .inr z
    refine go (fun b => if b = a then some (.frz O (.lst (ns.map V.int))) else none) (fun b => ?_) (.inl (.inr ⟨O, if_pos rfl⟩)) (fun b u z => ?_) (fun b z => ?_) fun _ => hk
    · rcases h0 b with z | z
      · exact .inr ⟨_, _, z⟩
      · exact .inl (if_neg z)
    · rcases h0 b with y | y
      · have z2 := y.symm.trans z
        cases z2
        obtain rfl : b = a := by
          rcases Classical.em (b = a) with c | c
          · exact c
          · rw [if_neg c] at y; cases y
        exact ⟨ha, by rw [List.length_map]; exact hl, vs, _, rv, ha⟩
      · have z2 := (if_neg y).symm.trans z
        cases z2
    · rcases Classical.em (b = a) with c | c
      · exact c
      · exact absurd (if_neg c) z
end
end Snd
-- S25
namespace Snd
open PySem L2 Mi
open PySem.Spec in
/-- the end of a law: what its model answers -/
theorem walkG {l : PySem.W.OpenLaw} {k : Nat} {q : Program} {loose : List Str} {XP : (Str → Option Value) → Heap → Prop} {YP : World → Heap → Prop} {d : DefRec} {K : Params → PySem.W.Frag} {P : Prog}
    (hn : l.most = some 63) (hdf : d.params.defaults = []) (hr : Room (3 * k) callerA) (hY : ∀ (w : World) (h : Heap), YP w h → (K w.params).In h)
    (F : ∀ (w : World) (mg : Str → Option Value) (fa : Addr) (h base : Heap), (K w.params).In h → h.Ns mainGlobals mg → mg d.name = some (.ref fa) →
      ∃ T : Tab, T.prog = l.prog ∧ T.w = w ∧ T.K = K w.params ∧ T.mg = mg ∧ T.base = base ∧ T.P = P ∧ TOk T ∧ (∀ q a, T.ad q = some a → DefOk T q a) ∧ T.ad "law" = some fa)
    (hP : ∀ ns : List Int, ns.length ≤ 63 → (∀ z ∈ ns, Builtin.Int.intBits z ≤ 1048576) → sem P k "law" [.lsv (ns.map MV.int)] [] (fun v _ => v = .bl true) NoX) :
    PySem.W.WalkO q loose XP YP l.row.toRowW d [] (fun f vs => PySem.call f vs) := by
  refine Att.attach_callB hn hdf fun w s₀ s₁ mg mb fa o pm cd doc a vs ns G Y ho hd hcd hmg hobj hints hlen hbits hg => ?_
  have KX := hY w _ Y
  refine law_callG KX G.T.g G.T.b G.T.builtins G.T.nolimit hg hobj hints (Nat.le_trans hlen (by decide)) fun base KB nb H hO hS e0 => ?_
  obtain ⟨T, e1, e2, eK, e3, e4, e5, TO, D, hf⟩ := F w mg fa _ base KX G.T.g hmg
  subst e5
  rw [← eK] at hS e0
  rw [← e1, ← e3, ← e4, ← e2] at e0
  rw [← e1, ← e2]
  have S : T.Sim (fun _ => none) H (fun _ => none) H [] := by
    refine ⟨fun a o e => (by simp at e), fun _ _ e => (by cases e), fun _ _ _ e => (by cases e), LeH.refl _, fun _ _ e => (by cases e), fun _ _ e => (by cases e), fun _ _ _ e => (by cases e), fun _ _ e => (by cases e)⟩
  have rr : RepVs T.K (fun _ => none) H [.lsv (ns.map MV.int)] [.ref a] := ⟨_, _, rfl, ⟨a, ns.map V.int, rfl, hS, RepVs.map (f := MV.int) (f' := V.int) (fun _ => rfl) ns⟩, rfl⟩
  refine codeAny_mono (all_fn TO D k "law" fa hf callerA [] s₁ H [.ref a] [.ref a] _ _ _ _ _ _ hr rfl e0 (.cons rfl .nil) S rr (hP ns hlen hbits)) fun r t h => ?_
  cases r with
  | error e => exact h.elim
  | ok fl =>
    cases fl with
    | ret u =>
      obtain ⟨v, H', os, bare, un, hok', r', g', I', x, st', _, _, _, rx, q⟩ := h
      have q : x = .bl true := q
      subst q
      exact ⟨v, H', os, bare, un, hok', r', rx⟩
    | next => exact h.elim
    | brk => exact h.elim
    | cont => exact h.elim
end Snd
-- S26
namespace Snd
open PySem L2 Mi

/-! ### the tables of a program, its facts -/
structure Dat where
  gl : List (Str × MV)
  fns : List String
  cls : List String
  dfs : List (String × IDef)
  mts : List ((String × String) × String)
  prs : List ((String × String) × Option String)
def Dat.P (D : Dat) : Prog := ⟨fun q => D.dfs.lookup q, fun c m => D.mts.lookup (c, m), fun c f => D.prs.lookup (c, f), rpD⟩
def Dat.G (D : Dat) : MT := ⟨D.gl, D.fns, D.cls⟩
/-- the names of builtins that must be free -/
def bNames : List String := ["len", "abs", "int", "str", "list", "tuple", "max", "min", "sum", "all", "any", "sorted", "repr", "dict", "set", "range", "isinstance", "bool", "enumerate", "zip"]
theorem mem_lk {α β : Type} [BEq α] [LawfulBEq α] : ∀ {l : List (α × β)} {k : α} {v : β}, l.lookup k = some v → (k, v) ∈ l
  | [], _, _, h => by simp at h
  | (a, b) :: r, k, v, h => by
    rw [List.lookup_cons] at h
    by_cases e : k = a
    · subst e
      simp at h
      subst h
      exact List.mem_cons_self
    · have : (k == a) = false := by simp [e]
      rw [this] at h
      exact List.mem_cons_of_mem _ (mem_lk h)
structure Fax (D : Dat) (K : PySem.W.Frag) (mg : Str → Option Value) (adT clT : List (String × Addr)) : Prop where
  gl : ∀ p ∈ D.gl, scalar p.2 = true ∧ ∃ u, mg p.1 = some u ∧ RelV (scV p.2) u
  bn : ∀ n ∈ bNames, mg (Str.ofString n) = none
  fn : ∀ f ∈ D.fns, ∃ a, adT.lookup f = some a ∧ mg (Str.ofString f) = some (.ref a) ∧ PySem.W.keepIn K (.ref a) = true
  cls : ∀ c ∈ D.cls, ∃ C q, clT.lookup c = some C ∧ mg (Str.ofString c) = some (.ref C) ∧ D.mts.lookup (c, "__init__") = some q
  clk : ∀ p ∈ clT, Cls K p.2
  mt : ∀ e ∈ D.mts, ∃ C a, clT.lookup e.1.1 = some C ∧ adT.lookup e.2 = some a ∧ Meth K C (Str.ofString e.1.2) a ∧ PySem.W.fnIn K a = true
  mak : ∀ e ∈ D.mts, e.1.2 = "__init__" → ∃ C a, clT.lookup e.1.1 = some C ∧ adT.lookup e.2 = some a ∧ Mk K C a
  pr : ∀ e ∈ D.prs, ∀ q, e.2 = some q → ∃ C p a, clT.lookup e.1.1 = some C ∧ adT.lookup q = some a ∧ PropOf K C (Str.ofString e.1.2) p a
  fl : ∀ e ∈ D.prs, e.2 = none → ∃ C, clT.lookup e.1.1 = some C ∧ NoAttr K C (Str.ofString e.1.2)
def Dat.tab (D : Dat) (prog : Program) (w : World) (K : PySem.W.Frag) (mg : Str → Option Value) (base : Heap) (adT clT : List (String × Addr)) : Tab :=
  ⟨D.G, D.P, prog, w, K, mg, base, fun c => clT.lookup c, fun q => adT.lookup q⟩
theorem tok_of {D : Dat} {prog : Program} {w : World} {K : PySem.W.Frag} {mg : Str → Option Value} {base : Heap} {adT clT : List (String × Addr)} (F : Fax D K mg adT clT) : TOk (D.tab prog w K mg base adT clT) where
  rp := rfl
  gl := fun x v h => F.gl (x, v) (mem_lk h)
  bn := fun b => F.bn _ (by cases b <;> decide)
  isi := F.bn _ (by decide)
  tys := fun t ht => F.bn _ (by cases t <;> first | decide | exact absurd rfl (ht _))
  rng := F.bn "range" (by decide)
  enu := F.bn "enumerate" (by decide)
  zip := F.bn "zip" (by decide)
  fn := fun f h => F.fn f (by simpa [Dat.tab, Dat.G] using h)
  cls := fun c h => F.cls c (by simpa [Dat.tab, Dat.G] using h)
  clk := fun c C h => F.clk (c, C) (mem_lk h)
  mt := fun c m q h => F.mt ((c, m), q) (mem_lk h)
  mak := fun c q C h hc => by
    obtain ⟨C', a, h1, h2, h3⟩ := F.mak ((c, "__init__"), q) (mem_lk h) rfl
    have hc : clT.lookup c = some C := hc
    rw [hc] at h1; cases h1
    exact ⟨a, h2, h3⟩
  pr := fun c f q h => F.pr ((c, f), some q) (mem_lk h) q rfl
  fl := fun c C f hc h => by
    obtain ⟨C', h1, h2⟩ := F.fl ((c, f), none) (mem_lk h) rfl
    have hc : clT.lookup c = some C := hc
    rw [hc] at h1; cases h1
    exact h2
/-- a def: its place in the text, its names -/
structure Spot where
  q : String
  x : Str
  st : Stmt
  N : List Str
  ps : List Str
def Spot.ok (D : Dat) (s : Spot) : Bool := match D.dfs.lookup s.q with
  | some d => decide (d.ns = s.N.length) && decide (d.np = s.ps.length) && bSs D.G d.body s.N (defScope s.st) (fun _ => true) (defBody s.st) && C8.scC s.N s.ps (defScope s.st)
  | none => false
theorem spot_def {D : Dat} {prog : Program} {w : World} {K : PySem.W.Frag} {mg : Str → Option Value} {base : Heap} {adT clT : List (String × Addr)} {s : Spot} {a : Addr} {qual : Str} {fd : FuncData} (h : s.ok D = true) (F : L2.Fun K s.x qual s.st a fd) (b : Binds K fd s.ps []) :
    DefOk (D.tab prog w K mg base adT clT) s.q a := by
  unfold Spot.ok at h
  split at h
  · rename_i d hd
    simp only [Bool.and_eq_true, decide_eq_true_eq] at h
    obtain ⟨⟨⟨h1, h2⟩, h3⟩, h4⟩ := h
    exact ⟨d, s.x, qual, s.st, fd, s.N, s.ps, hd, F, C8.fnScope_by h4, b, h1, h2, h3⟩
  · exact absurd h Bool.false_ne_true
end Snd
-- S27
namespace Snd
open PySem L2 Mi
theorem all_nil {α : Type} {P : α → Prop} : ∀ x ∈ ([] : List α), P x := fun _ h => by simp at h
theorem all_cons {α : Type} {P : α → Prop} {a : α} {l : List α} (h : P a) (t : ∀ x ∈ l, P x) : ∀ x ∈ a :: l, P x := fun x hx => by
  rcases List.mem_cons.mp hx with rfl | z
  · exact h
  · exact t x z
theorem def_at {D : Dat} {prog : Program} {w : World} {K : PySem.W.Frag} {mg : Str → Option Value} {base : Heap} {adT clT : List (String × Addr)} {s : Spot} {a : Addr} {qual : Str} {oc : Value} {od an : Option Addr} {osl : Array (Option Value)} {kV doc pm cdv ct : Value} (h : s.ok D = true)
    (l : K.lookup a = some ⟨oc, od, .func (PySem.W.fnOf s.x qual (defArgs s.st) (defBody s.st) (defScope s.st) .none kV doc pm an cdv ct), osl⟩) (c : PySem.W.codeIn K cdv qual = true) (k : PySem.W.keepIn K (.ref a) = true)
    (hb : ∀ (kV doc pm : Value) (an : Option Addr) (cdv ct : Value) (us : List Value), us.length = s.ps.length → bindArgs (PySem.W.fnOf s.x qual (defArgs s.st) (defBody s.st) (defScope s.st) .none kV doc pm an cdv ct) ⟨us, []⟩ = pure (s.ps.zip us)) :
    DefOk (D.tab prog w K mg base adT clT) s.q a := by
  have F := L2.fun_mk l c k
  exact spot_def h F (F.binds hb)
end Snd
-- R0
namespace Mi
/-! ### what repr takes -/
mutual
/-- ints of a dozen figures, true signs, no dict -/
def PD.shy : PD → Bool
  | .int i => decide (i.natAbs < 1000000000000)
  | .str x => x.all (fun c => decide (c < 1114112))
  | .lst xs => PD.shyAll xs
  | .tup xs => PD.shyAll xs
  | .dic _ => false
  | _ => true
def PD.shyAll : List PD → Bool
  | [] => true
  | x :: xs => PD.shy x && PD.shyAll xs
end
mutual
/-- how great data is -/
def PD.wt : PD → Nat
  | .int _ => 41
  | .str x => x.length
  | .lst xs => PD.wtAll xs
  | .tup xs => PD.wtAll xs
  | _ => 0
def PD.wtAll : List PD → Nat
  | [] => 0
  | x :: xs => PD.wt x + 1 + PD.wtAll xs
end
structure HasRp (P : Prog) : Prop where
  len : ∀ d : PD, d.shy = true → d.wt ≤ 1000000 → (P.rp d).length ≤ big
mutual
theorem PD.shy_shw : ∀ d : PD, d.shy = true → d.shw = true ∧ d.nodic = true
  | .non, _ => ⟨rfl, rfl⟩
  | .bl _, _ => ⟨rfl, rfl⟩
  | .int i, h => by
    simp only [PD.shy, decide_eq_true_eq] at h
    refine ⟨?_, rfl⟩
    simp only [PD.shw, decide_eq_true_eq]
    have : (1000000000000 : Nat) ≤ 2 ^ 1000 := by decide +kernel
    omega
  | .str _, _ => ⟨rfl, rfl⟩
  | .lst xs, h => PD.shyAll_shw xs h
  | .tup xs, h => PD.shyAll_shw xs h
  | .dic _, h => by simp [PD.shy] at h
theorem PD.shyAll_shw : ∀ xs : List PD, PD.shyAll xs = true → PD.shwAll xs = true ∧ PD.nodicAll xs = true
  | [], _ => ⟨rfl, rfl⟩
  | x :: xs, h => by
    have h' : x.shy = true ∧ PD.shyAll xs = true := by simpa only [PD.shyAll, Bool.and_eq_true] using h
    obtain ⟨a, b⟩ := PD.shy_shw x h'.1
    obtain ⟨c, d⟩ := PD.shyAll_shw xs h'.2
    exact ⟨by simp only [PD.shwAll, a, c, Bool.and_self], by simp only [PD.nodicAll, b, d, Bool.and_self]⟩
end
theorem b_repr {P : Prog} (R : HasRp P) {st : Sto} {Q : Post} {x : MV} {d : PD} (h : toPD 30 st x = some d) (s : d.shy = true) (w : d.wt ≤ 1000000) (q : Q (.str (P.rp d)) st) : opBlt P.rp .repr [x] st Q :=
  ⟨d, h, (PD.shy_shw d s).1, (PD.shy_shw d s).2, R.len d s w, q⟩
end Mi
-- S28
namespace Snd
open PySem L2 Mi
mutual
theorem shy_leaves : ∀ d : PD, d.shy = true → (pyD d).leavesShort 13 = true ∧ (pyD d).weight ≤ d.wt
  | .non, _ => ⟨rfl, Nat.le_refl _⟩
  | .bl _, _ => ⟨rfl, Nat.le_refl _⟩
  | .int i, h => by
    simp only [PD.shy, decide_eq_true_eq] at h
    refine ⟨?_, ?_⟩
    · simp only [pyD, PyData.leavesShort, decide_eq_true_eq]
      exact PyData.shown_int_le (by simpa using h)
    · show (if i == 0 then 0 else i.natAbs.log2 + 1) ≤ 41
      split
      · omega
      · rename_i z
        have : i.natAbs.log2 < 41 := (Nat.log2_lt (by simpa using z)).mpr (by omega)
        omega
  | .str x, h => by
    simp only [PD.shy, List.all_eq_true, decide_eq_true_eq] at h
    refine ⟨?_, ?_⟩
    · simp only [pyD, PyData.leavesShort, List.all_eq_true, decide_eq_true_eq]
      intro c hc
      have := h c hc
      have e : (16 : Nat) ^ 8 = 4294967296 := by decide
      omega
    · show x.toArray.size ≤ x.length
      simp
  | .lst xs, h => shyAll_leaves xs h
  | .tup xs, h => shyAll_leaves xs h
  | .dic _, h => by simp [PD.shy] at h
theorem shyAll_leaves : ∀ xs : List PD, PD.shyAll xs = true → PyData.leavesShortAll 13 (pyDs xs) = true ∧ PyData.weightAll (pyDs xs) ≤ PD.wtAll xs
  | [], _ => ⟨rfl, Nat.le_refl _⟩
  | x :: xs, h => by
    have h' : x.shy = true ∧ PD.shyAll xs = true := by simpa only [PD.shyAll, Bool.and_eq_true] using h
    obtain ⟨a, b⟩ := shy_leaves x h'.1
    obtain ⟨c, d⟩ := shyAll_leaves xs h'.2
    refine ⟨by simp only [pyDs, PyData.leavesShortAll, a, c, Bool.and_self], ?_⟩
    simp only [pyDs, PyData.weightAll, PD.wtAll]
    omega
end
theorem rp_has (P : Prog) (h : P.rp = rpD) : HasRp P := ⟨fun d s w => by
  rw [h, len_rp]
  obtain ⟨a, b⟩ := shy_leaves d s
  have := PyData.shown_le 13 (by decide) (pyD d) a
  have h2 : (13 + 2) * (pyD d).weight ≤ 15 * 1000000 := Nat.mul_le_mul (by decide) (by omega)
  simp only [big]
  omega⟩
end Snd
-- B0
namespace Mi
/-! rules for proofs about models -/
theorem loop_inv {α : Type} {ok : Sto → Prop} {step : MV → α → Sto → (α → Sto → Prop) → Prop} {xs : List MV} {Q : α → Sto → Prop} (J : List MV → α → Sto → Prop)
    (hok : ∀ p a st, J p a st → ok st) (hs : ∀ p x r a st k, xs = p ++ x :: r → J p a st → (∀ a' st', J (p ++ [x]) a' st' → k a' st') → step x a st k) (hq : ∀ a st, J xs a st → Q a st) :
    ∀ {p r : List MV} {a : α} {st : Sto}, xs = p ++ r → J p a st → loop ok step r a st Q
  | p, [], a, st, e, h => by
    have : xs = p := by simpa using e
    exact ⟨hok _ _ _ h, hq _ _ (this ▸ h)⟩
  | p, x :: r, a, st, e, h => ⟨hok _ _ _ h, hs p x r a st _ e h fun a' st' h' => loop_inv J hok hs hq (by simp [e]) h'⟩
theorem loop_go {α : Type} {ok : Sto → Prop} {step : MV → α → Sto → (α → Sto → Prop) → Prop} {xs : List MV} {Q : α → Sto → Prop} {a : α} {st : Sto} (J : List MV → α → Sto → Prop) (h0 : J [] a st)
    (hok : ∀ p a st, J p a st → ok st) (hs : ∀ p x r a st k, xs = p ++ x :: r → J p a st → (∀ a' st', J (p ++ [x]) a' st' → k a' st') → step x a st k) (hq : ∀ a st, J xs a st → Q a st) : loop ok step xs a st Q :=
  loop_inv J hok hs hq (p := []) rfl h0
theorem while_inv {test : Env → Sto → (Bool → Sto → Prop) → Prop} {body : Ends → Env → Sto → Prop} {D : Ends} (J : Nat → Env → Sto → Prop)
    (h : ∀ m σ st k, J m σ st → (∀ m' σ' st', m' < m → J m' σ' st' → k σ' st') → test σ st fun b st' => if b then body { D with nx := k, ct := k, bk := D.nx } σ st' else D.nx σ st') :
    ∀ {n m : Nat} {σ : Env} {st : Sto}, m < n → J m σ st → whileN test body D n σ st
  | 0, m, σ, st, hm, _ => absurd hm (Nat.not_lt_zero _)
  | n + 1, m, σ, st, hm, hj => h m σ st _ hj fun m' σ' st' hl hj' => while_inv J h (Nat.lt_of_lt_of_le hl (Nat.le_of_lt_succ hm)) hj'
theorem while_go {test : Env → Sto → (Bool → Sto → Prop) → Prop} {body : Ends → Env → Sto → Prop} {D : Ends} (J : Nat → Env → Sto → Prop) {m : Nat} {σ : Env} {st : Sto} (h0 : J m σ st)
    (h : ∀ m σ st k, J m σ st → (∀ m' σ' st', m' < m → J m' σ' st' → k σ' st') → test σ st fun b st' => if b then body { D with nx := k, ct := k, bk := D.nx } σ st' else D.nx σ st') :
    ∃ n, whileN test body D n σ st := ⟨m + 1, while_inv J h (Nat.lt_succ_self _) h0⟩
section
variable {P : Prog} {F : Phi} {σ : Env} {st : Sto} {Q : Post} {X : Xp} {D : Ends}
/-! one rule for each form -/
theorem w_var {i : Nat} {v : MV} (h : σ[i]? = some (some v)) (q : Q v st) : wpE P F (.var i) σ st Q X := ⟨v, h, q⟩
theorem w_con {v : MV} (q : Q v st) : wpE P F (.con v) σ st Q X := q
theorem w_tup {es : IA} (h : wpA P F es σ st (fun vs st' => vs.length ≤ big ∧ Q (.tup vs) st') X) : wpE P F (.tup es) σ st Q X := h
theorem w_lst {es : IA} (h : wpA P F es σ st (fun vs st' => vs.length ≤ big ∧ Q (.ref st'.length) (st' ++ [.lst vs])) X) : wpE P F (.lst es) σ st Q X := h
theorem w_dic {ps : IP} (h : wpP P F ps σ st (fun kvs st' => kvs.all (fun kv => isKey kv.1) = true ∧ kvs.length ≤ 15 ∧ Q (.ref st'.length) (st' ++ [.dic false (kvs.foldl (fun acc kv => kPut kv.1 kv.2 acc) [])])) X) : wpE P F (.dic ps) σ st Q X := h
theorem w_bin {o : BOp} {a b : IE} (h : wpE P F a σ st (fun x st1 => wpE P F b σ st1 (fun y st2 => opBin o x y st2 Q) X) X) : wpE P F (.bin o a b) σ st Q X := h
theorem w_neg {a : IE} (h : wpE P F a σ st (fun x st1 => ∃ i, x = .int i ∧ Q (.int (-i)) st1) X) : wpE P F (.neg a) σ st Q X := h
theorem w_cmp {o : COp} {a b : IE} (h : wpE P F a σ st (fun x st1 => wpE P F b σ st1 (fun y st2 => opCmp o x y st2 fun t st3 => Q (.bl t) st3) X) X) : wpE P F (.cmp o a b) σ st Q X := h
theorem w_chn {o1 o2 : COp} {a b c : IE} (h : wpE P F a σ st (fun x st1 => wpE P F b σ st1 (fun y st2 => opCmp o1 x y st2 fun t st3 =>
      if t then wpE P F c σ st3 (fun z st4 => opCmp o2 y z st4 fun u st5 => Q (.bl u) st5) X else Q (.bl false) st3) X) X) : wpE P F (.chn o1 o2 a b c) σ st Q X := h
theorem w_and {a b : IE} (h : wpE P F a σ st (fun x st1 => ∃ t, truth st1 x = some t ∧ if t then wpE P F b σ st1 Q X else Q x st1) X) : wpE P F (.and a b) σ st Q X := h
theorem w_or {a b : IE} (h : wpE P F a σ st (fun x st1 => ∃ t, truth st1 x = some t ∧ if t then Q x st1 else wpE P F b σ st1 Q X) X) : wpE P F (.or a b) σ st Q X := h
theorem w_not {a : IE} (h : wpE P F a σ st (fun x st1 => ∃ t, truth st1 x = some t ∧ Q (.bl (!t)) st1) X) : wpE P F (.not a) σ st Q X := h
theorem w_ite {c a b : IE} (h : wpE P F c σ st (fun x st1 => ∃ t, truth st1 x = some t ∧ if t then wpE P F a σ st1 Q X else wpE P F b σ st1 Q X) X) : wpE P F (.ite c a b) σ st Q X := h
theorem w_sub {a i : IE} (h : wpE P F a σ st (fun x st1 => wpE P F i σ st1 (fun y st2 => opGet P F x y st2 Q X) X) X) : wpE P F (.sub a i) σ st Q X := h
theorem w_sli {a : IE} {lo hi : IO} (h : wpE P F a σ st (fun x st1 => wpO P F lo σ st1 (fun l st2 => wpO P F hi σ st2 (fun h st3 => opSli x l h st3 Q) X) X) X) : wpE P F (.sli a lo hi) σ st Q X := h
theorem w_rev {a : IE} (h : wpE P F a σ st (fun x st1 => ∃ a xs, x = .ref a ∧ st1[a]? = some (.lst xs) ∧ Q (.ref st1.length) (st1 ++ [.lst xs.reverse])) X) : wpE P F (.rev a) σ st Q X := h
theorem w_fld {a : IE} {f : String} (h : wpE P F a σ st (fun x st1 => opFld P F f x st1 Q X) X) : wpE P F (.fld a f) σ st Q X := h
theorem w_call {f : String} {es : IA} (h : wpA P F es σ st (fun vs st1 => F f vs st1 Q X) X) : wpE P F (.call f es) σ st Q X := h
theorem w_bmt {a : IE} {m : BMt} {es : IA} (h : wpE P F a σ st (fun x st1 => btOk m st1 x = true ∧ wpA P F es σ st1 (fun vs st2 => opBmt m x vs st2 Q) X) X) : wpE P F (.bmt a m es) σ st Q X := h
theorem w_blt {b : Blt} {es : IA} (h : wpA P F es σ st (fun vs st1 => opBlt P.rp b vs st1 Q) X) : wpE P F (.blt b es) σ st Q X := h
theorem w_isi {a : IE} {t : ITy} (h : wpE P F a σ st (fun x st1 => opIsi t x st1 fun b st2 => Q (.bl b) st2) X) : wpE P F (.isi a t) σ st Q X := h
theorem w_nil {Q : List MV → Sto → Prop} (q : Q [] st) : wpA P F .nil σ st Q X := q
theorem w_arg {e : IE} {r : IA} {Q : List MV → Sto → Prop} (h : wpE P F e σ st (fun v st1 => wpA P F r σ st1 (fun vs st2 => Q (v :: vs) st2) X) X) : wpA P F (.cons e r) σ st Q X := h
theorem w_star {e : IE} {r : IA} {Q : List MV → Sto → Prop} (h : wpE P F e σ st (fun v st1 => ∃ xs, seqOf st1 v = some xs ∧ wpA P F r σ st1 (fun vs st2 => Q (xs ++ vs) st2) X) X) : wpA P F (.star e r) σ st Q X := h
theorem w_pn {Q : List (MV × MV) → Sto → Prop} (q : Q [] st) : wpP P F .nil σ st Q X := q
theorem w_pc {k v : IE} {r : IP} {Q : List (MV × MV) → Sto → Prop} (h : wpE P F k σ st (fun x st1 => wpE P F v σ st1 (fun y st2 => wpP P F r σ st2 (fun kvs st3 => Q ((x, y) :: kvs) st3) X) X) X) : wpP P F (.cons k v r) σ st Q X := h
theorem w_tg {i : Nat} {v : MV} {Q : Env → Prop} (q : Q (σ.set i (some v))) : setTg (.name i) v σ Q := q
theorem w_ng {i : Int} {R : Int → Prop} (q : R i) : ∃ j, MV.int i = .int j ∧ R j := ⟨i, rfl, q⟩
theorem w_cn {Q : Bool → Sto → Prop} (q : Q true st) : wpO' P F .non σ st Q := q
theorem w_cs {e : IE} {Q : Bool → Sto → Prop} (h : wpE P F e σ st (fun v st1 => ∃ t, truth st1 v = some t ∧ Q t st1) (fun _ _ _ => False)) : wpO' P F (.som e) σ st Q := h
theorem w_tt {ns : List Nat} {vs : List MV} {Q : Env → Prop} (hl : vs.length = ns.length) (q : Q ((ns.zip vs).foldl (fun s p => s.set p.1 (some p.2)) σ)) : setTg (.tup ns) (.tup vs) σ Q := ⟨vs, rfl, hl, q⟩
theorem w_ts {ns : List Nat} {vs : List MV} {Q : Env → Prop} (hl : vs.length = ns.length) (q : Q ((ns.zip vs).foldl (fun s p => s.set p.1 (some p.2)) σ)) : setTgS (.tup ns) (.tup vs) σ st Q := ⟨vs, rfl, hl, q⟩
theorem b_sum {rp : PD → Tx} {p : Nat} {ns : List Int} (h : st[p]? = some (.lst (ns.map .int))) (q : Q (.int ns.sum) st) : opBlt rp .sum [.ref p] st Q := ⟨ns, h, q⟩
theorem w_gm {n : Nat} {c m q : String} {fs : List (String × MV)} {R : Nat → String → List (String × MV) → String → Prop} (h : st[n]? = some (.ins c fs)) (hl : fs.lookup m = none) (hm : P.mt c m = some q) (r : R n c fs q) :
    ∃ n' c' fs' q', MV.ref n = .ref n' ∧ st[n']? = some (.ins c' fs') ∧ fs'.lookup m = none ∧ P.mt c' m = some q' ∧ R n' c' fs' q' := ⟨n, c, fs, q, rfl, h, hl, hm, r⟩
theorem w_end {D : Ends} (q : D.nx σ st) : wpSs P F [] D σ st := q
theorem w_seq {s : IS} {r : List IS} (h : wpS P F s { D with nx := fun σ1 st1 => wpSs P F r D σ1 st1 } σ st) : wpSs P F (s :: r) D σ st := h
theorem w_expr {e : IE} (h : wpE P F e σ st (fun _ st1 => D.nx σ st1) (fun c v st' => D.ex c v σ st')) : wpS P F (.expr e) D σ st := h
theorem w_set {i : Nat} {e : IE} (h : wpE P F e σ st (fun v st1 => D.nx (σ.set i (some v)) st1) (fun c v st' => D.ex c v σ st')) : wpS P F (.asg (.name i) e) D σ st := h
theorem w_asg {ns : List Nat} {e : IE} (h : wpE P F e σ st (fun v st1 => setTgS (.tup ns) v σ st1 fun σ1 => D.nx σ1 st1) (fun c v st' => D.ex c v σ st')) : wpS P F (.asg (.tup ns) e) D σ st := h
theorem w_par {ns : List Nat} {es : IA} (h : wpA P F es σ st (fun vs st1 => vs.length = ns.length ∧ D.nx ((ns.zip vs).foldl (fun s p => s.set p.1 (some p.2)) σ) st1) (fun c v st' => D.ex c v σ st')) : wpS P F (.par ns es) D σ st := h
theorem w_setsub {o i e : IE} (h : wpE P F e σ st (fun v st1 => wpE P F o σ st1 (fun x st2 => wpE P F i σ st2 (fun y st3 => opSet x y v st3 fun st4 => D.nx σ st4)
      (fun c v st' => D.ex c v σ st')) (fun c v st' => D.ex c v σ st')) (fun c v st' => D.ex c v σ st')) : wpS P F (.setsub o i e) D σ st := h
theorem w_iff {c : IE} {a b : List IS} (h : wpE P F c σ st (fun x st1 => ∃ t, truth st1 x = some t ∧ if t then wpSs P F a D σ st1 else wpSs P F b D σ st1) (fun c v st' => D.ex c v σ st')) : wpS P F (.iff c a b) D σ st := h
theorem w_ret {e : IE} (h : wpE P F e σ st D.rt (fun c v st' => D.ex c v σ st')) : wpS P F (.ret e) D σ st := h
theorem w_tr {b : Bool} {R : Bool → Prop} (h : R b) : ∃ t, truth st (.bl b) = some t ∧ R t := ⟨b, rfl, h⟩
/-! the store -/
theorem get_set {p : Nat} {o o' : MO} (h : st[p]? = some o) : (st.set p o')[p]? = some o' := List.getElem?_set_self (List.getElem?_eq_some_iff.mp h).1
theorem get_app {p : Nat} {o : MO} {t : Sto} (h : st[p]? = some o) : (st ++ t)[p]? = some o := by
  rw [List.getElem?_append_left (List.getElem?_eq_some_iff.mp h).1]; exact h
theorem get_new {o : MO} : (st ++ [o])[st.length]? = some o := by simp
theorem get_other {p q : Nat} {o o' : MO} (n : p ≠ q) (h : st[q]? = some o) : (st.set p o')[q]? = some o := by rw [List.getElem?_set_ne n]; exact h
/-! operations -/
theorem o_add {i j : Int} (q : Q (.int (i + j)) st) : opBin .add (.int i) (.int j) st Q := q
theorem o_sub {i j : Int} (q : Q (.int (i - j)) st) : opBin .sub (.int i) (.int j) st Q := q
theorem o_mod {i j : Int} (h : 0 < j) (q : Q (.int (i % j)) st) : opBin .mod (.int i) (.int j) st Q := ⟨h, q⟩
theorem o_div {i j : Int} (h : 0 < j) (h2 : j < 1073741824) (q : Q (.int (i / j)) st) : opBin .fdiv (.int i) (.int j) st Q := ⟨h, h2, q⟩
theorem o_mul {i j : Int} (h : i.natAbs < 2 ^ 64 ∨ j.natAbs < 2 ^ 64) (q : Q (.int (i * j)) st) : opBin .mul (.int i) (.int j) st Q := ⟨h.elim .inl fun z => .inr (.inl z), q⟩
theorem o_pow {i j : Int} (h : 0 ≤ j) (h1 : j ≤ 1000) (h2 : i.natAbs < 2 ^ 5000) (q : Q (.int (i ^ j.toNat)) st) : opBin .pow (.int i) (.int j) st Q := ⟨h, h1, h2, q⟩
theorem b_int {rp : PD → Tx} {i : Int} (q : Q (.int i) st) : opBlt rp .int [.int i] st Q := q
theorem b_abs {rp : PD → Tx} {i : Int} (q : Q (.int (if i < 0 then -i else i)) st) : opBlt rp .abs [.int i] st Q := q
theorem b_max {rp : PD → Tx} {i j : Int} (q : Q (.int (if j > i then j else i)) st) : opBlt rp .max [.int i, .int j] st Q := q
theorem b_min {rp : PD → Tx} {i j : Int} (q : Q (.int (if j < i then j else i)) st) : opBlt rp .min [.int i, .int j] st Q := q
theorem c_lt {i j : Int} {Q : Bool → Sto → Prop} (q : Q (decide (i < j)) st) : opCmp .lt (.int i) (.int j) st Q := ⟨i, j, rfl, rfl, q⟩
theorem c_le {i j : Int} {Q : Bool → Sto → Prop} (q : Q (decide (i ≤ j)) st) : opCmp .le (.int i) (.int j) st Q := ⟨i, j, rfl, rfl, q⟩
theorem c_gt {i j : Int} {Q : Bool → Sto → Prop} (q : Q (decide (j < i)) st) : opCmp .gt (.int i) (.int j) st Q := ⟨i, j, rfl, rfl, q⟩
theorem c_ge {i j : Int} {Q : Bool → Sto → Prop} (q : Q (decide (j ≤ i)) st) : opCmp .ge (.int i) (.int j) st Q := ⟨i, j, rfl, rfl, q⟩
theorem e_int {i j : Int} {Q : Bool → Sto → Prop} (q : Q (i == j) st) : opCmp .eq (.int i) (.int j) st Q := .inl ⟨.int i, .int j, rfl, rfl, .inl rfl, q⟩
theorem e_str {x y : Tx} {Q : Bool → Sto → Prop} (q : Q (x == y) st) : opCmp .eq (.str x) (.str y) st Q := .inl ⟨.str x, .str y, rfl, rfl, .inl rfl, q⟩
theorem n_int {i j : Int} {Q : Bool → Sto → Prop} (q : Q (!(i == j)) st) : opCmp .ne (.int i) (.int j) st Q := .inl ⟨.int i, .int j, rfl, rfl, .inl rfl, q⟩
theorem n_str {x y : Tx} {Q : Bool → Sto → Prop} (q : Q (!(x == y)) st) : opCmp .ne (.str x) (.str y) st Q := .inl ⟨.str x, .str y, rfl, rfl, .inl rfl, q⟩
theorem l_tup {rp : PD → Tx} {xs : List MV} (q : Q (.int xs.length) st) : opBlt rp .len [.tup xs] st Q := q
theorem l_lsv {rp : PD → Tx} {xs : List MV} (q : Q (.int xs.length) st) : opBlt rp .len [.lsv xs] st Q := q
theorem l_lst {rp : PD → Tx} {p : Nat} {xs : List MV} (h : st[p]? = some (.lst xs)) (q : Q (.int xs.length) st) : opBlt rp .len [.ref p] st Q := by simp only [opBlt, h]; exact q
theorem l_dic {rp : PD → Tx} {p : Nat} {kvs : List (MV × MV)} (h : st[p]? = some (.dic false kvs)) (q : Q (.int kvs.length) st) : opBlt rp .len [.ref p] st Q := by simp only [opBlt, h]; exact q
theorem l_str {rp : PD → Tx} {s : Tx} (h : s.length ≤ big) (q : Q (.int s.length) st) : opBlt rp .len [.str s] st Q := ⟨h, q⟩
theorem g_lst {p : Nat} {xs : List MV} {n : Int} {v : MV} (h : st[p]? = some (.lst xs)) (hv : (ixOf xs.length n).bind (xs[·]?) = some v) (q : Q v st) : opGet P F (.ref p) (.int n) st Q X := .inl (by simp only [opSub, h]; exact ⟨n, v, rfl, hv, q⟩)
theorem g_tup {xs : List MV} {n : Int} {v : MV} (hv : (ixOf xs.length n).bind (xs[·]?) = some v) (q : Q v st) : opGet P F (.tup xs) (.int n) st Q X := .inl ⟨n, v, rfl, hv, q⟩
theorem g_dic {p : Nat} {lk : Bool} {kvs : List (MV × MV)} {k v : MV} (h : st[p]? = some (.dic lk kvs)) (hk : isKey k = true) (hv : kLook k kvs = some v) (q : Q v st) : opGet P F (.ref p) k st Q X := .inl (by simp only [opSub, h]; exact ⟨v, hk, hv, q⟩)
theorem s_lst {p : Nat} {xs : List MV} {n : Int} {k : Nat} {v : MV} {Q : Sto → Prop} (h : st[p]? = some (.lst xs)) (hk : ixOf xs.length n = some k) (q : Q (st.set p (.lst (xs.set k v)))) : opSet (.ref p) (.int n) v st Q := by
  simp only [opSet, h]; exact ⟨n, k, rfl, hk, q⟩
theorem f_at {n : Nat} {c f : String} {fs : List (String × MV)} {v : MV} (h : st[n]? = some (.ins c fs)) (hp : P.pr c f = some none) (hv : fs.lookup f = some v) (q : Q v st) : opFld P F f (.ref n) st Q X := ⟨n, c, fs, rfl, h, .inl ⟨hp, v, hv, q⟩⟩
theorem f_prop {n : Nat} {c f q : String} {fs : List (String × MV)} (h : st[n]? = some (.ins c fs)) (hp : P.pr c f = some (some q)) (hq : F q [.ref n] st Q X) : opFld P F f (.ref n) st Q X := ⟨n, c, fs, rfl, h, .inr ⟨q, hp, hq⟩⟩
theorem g_own {n : Nat} {c q : String} {fs : List (String × MV)} {y : MV} (h : st[n]? = some (.ins c fs)) (hp : P.mt c "__getitem__" = some q) (hq : F q [.ref n, y] st Q X) : opGet P F (.ref n) y st Q X := .inr ⟨n, c, fs, q, rfl, h, hp, hq⟩
theorem w_mth {a : IE} {m : String} {es : IA} (h : wpE P F a σ st (fun x st1 => ∃ n c fs q, x = .ref n ∧ st1[n]? = some (.ins c fs) ∧ fs.lookup m = none ∧ P.mt c m = some q ∧ wpA P F es σ st1 (fun vs st2 => F q (x :: vs) st2 Q X) X) X) : wpE P F (.mth a m es) σ st Q X := h
theorem i_dic {p : Nat} {lk : Bool} {kvs : List (MV × MV)} {k : MV} {Q : Bool → Sto → Prop} (h : st[p]? = some (.dic lk kvs)) (hk : isKey k = true) (q : Q (kLook k kvs).isSome st) : opCmp .inn k (.ref p) st Q := by
  simp only [opCmp, opIn, h]; exact ⟨hk, q⟩
theorem ni_dic {p : Nat} {lk : Bool} {kvs : List (MV × MV)} {k : MV} {Q : Bool → Sto → Prop} (h : st[p]? = some (.dic lk kvs)) (hk : isKey k = true) (q : Q (!(kLook k kvs).isSome) st) : opCmp .nin k (.ref p) st Q := by
  simp only [opCmp, opIn, h]; exact ⟨hk, q⟩
theorem t_str {s : Tx} (q : Q (.tup [.str s]) st) : Q (.tup [.str s]) st := q
theorem is_str {s : Tx} {Q : Bool → Sto → Prop} (q : Q true st) : opIsi .str (.str s) st Q := q
theorem u_lst {rp : PD → Tx} {p : Nat} {xs : List MV} (h : st[p]? = some (.lst xs)) (q : Q (.tup xs) st) : opBlt rp .tuple [.ref p] st Q := by simp only [opBlt, h]; exact q
theorem u_dic {rp : PD → Tx} {p : Nat} {lk : Bool} {kvs : List (MV × MV)} (h : st[p]? = some (.dic lk kvs)) (q : Q (.tup (keysOf kvs)) st) : opBlt rp .tuple [.ref p] st Q := by simp only [opBlt, h]; exact q
theorem u_tup {rp : PD → Tx} {xs : List MV} (q : Q (.tup xs) st) : opBlt rp .tuple [.tup xs] st Q := q
theorem l_new {rp : PD → Tx} {xs : List MV} (q : Q (.ref st.length) (st ++ [.lst xs])) : opBlt rp .list [.tup xs] st Q := q
theorem l_cpy {rp : PD → Tx} {p : Nat} {xs : List MV} (h : st[p]? = some (.lst xs)) (q : Q (.ref st.length) (st ++ [.lst xs])) : opBlt rp .list [.ref p] st Q := by simp only [opBlt, h]; exact q
theorem m_app {p : Nat} {xs : List MV} {v : MV} (h : st[p]? = some (.lst xs)) (hl : xs.length < big) (q : Q .non (st.set p (.lst (xs ++ [v])))) : opBmt .append (.ref p) [v] st Q := ⟨p, xs, v, rfl, h, rfl, hl, q⟩
theorem m_pop {p k : Nat} {xs : List MV} {i : Int} {v : MV} (h : st[p]? = some (.lst xs)) (hl : xs.length < big) (hk : ixOf xs.length i = some k) (hv : xs[k]? = some v) (q : Q v (st.set p (.lst (xs.eraseIdx k)))) : opBmt .pop (.ref p) [.int i] st Q := ⟨p, xs, i, k, v, rfl, h, rfl, hl, hk, hv, q⟩
theorem m_get {p : Nat} {kvs : List (MV × MV)} {k v : MV} (h : st[p]? = some (.dic false kvs)) (hk : isKey k = true) (q : Q ((kLook k kvs).getD v) st) : opBmt .get (.ref p) [k, v] st Q := ⟨p, kvs, k, v, rfl, h, rfl, hk, q⟩
theorem s_dic {p : Nat} {kvs : List (MV × MV)} {k v : MV} {Q : Sto → Prop} (h : st[p]? = some (.dic false kvs)) (hk : isKey k = true) (hl : kvs.length < big) (q : Q (st.set p (.dic false (kPut k v kvs)))) : opSet (.ref p) k v st Q := by
  simp only [opSet, h]; exact ⟨hk, hl, q⟩
theorem bt_lst {p : Nat} {xs : List MV} {m : BMt} (h : st[p]? = some (.lst xs)) (hm : (match m with | .append => true | .extend => true | .pop => true | .index => true | _ => false) = true) : btOk m st (.ref p) = true := by simp only [btOk, h]; exact hm
theorem bt_dic {p : Nat} {kvs : List (MV × MV)} (h : st[p]? = some (.dic false kvs)) : btOk .get st (.ref p) = true := by simp only [btOk, h]
theorem isN_non {Q : Bool → Sto → Prop} (q : Q true st) : opCmp .isN .non .non st Q := ⟨rfl, q⟩
theorem notN_non {Q : Bool → Sto → Prop} (q : Q false st) : opCmp .notN .non .non st Q := ⟨rfl, q⟩
theorem isN_tup {xs : List MV} {Q : Bool → Sto → Prop} (q : Q false st) : opCmp .isN (.tup xs) .non st Q := ⟨rfl, q⟩
theorem notN_tup {xs : List MV} {Q : Bool → Sto → Prop} (q : Q true st) : opCmp .notN (.tup xs) .non st Q := ⟨rfl, q⟩
theorem w_for {tg : ITg} {it : II} {b : List IS} {D : Ends} (h : wpI P F it σ st (fun J st1 fin =>
      loop J.ok (fun x σ1 st2 k => setTg tg x σ1 fun σ2 => wpSs P F b { nx := k, ct := k, bk := fun σ' st' => fin st' fun st'' => D.nx σ' st'', rt := fun v st' => fin st' fun st'' => D.rt v st'', ex := fun c v σ' st' => fin st' fun st'' => D.ex c v σ' st'' } σ2 st2) J.xs σ st1
        fun σ' st' => fin st' fun st'' => D.nx σ' st'') (fun c v st' => D.ex c v σ st')) : wpS P F (.for_ tg it b) D σ st := h
theorem w_whl {c : IE} {b : List IS} {D : Ends} (h : ∃ n, whileN (fun σ1 st1 k => wpE P F c σ1 st1 (fun x st2 => ∃ t, truth st2 x = some t ∧ k t st2) (fun c v st' => D.ex c v σ1 st')) (wpSs P F b) D n σ st) : wpS P F (.whl c b) D σ st := h
theorem w_ev {e : IE} {R : It → Sto → (Sto → (Sto → Prop) → Prop) → Prop} (h : wpE P F e σ st (fun v st1 => itemsOf v st1 fun J st2 => R J st2 fun st3 k => k st3) X) : wpI P F (.ev e) σ st R X := h
theorem w_keys {e : IE} {R : It → Sto → (Sto → (Sto → Prop) → Prop) → Prop} (h : wpE P F e σ st (fun v st0 => lockAt v st0 fun a kvs st1 => R ⟨keysOf kvs, fun st' => st'[a]? = some (.dic true kvs)⟩ st1 fun st3 k => unlock a kvs st3 k) X) : wpI P F (.keys e) σ st R X := h
theorem w_rng {a : IE} {R : It → Sto → (Sto → (Sto → Prop) → Prop) → Prop} (h : wpE P F a σ st (fun v st1 => ∃ n : Int, v = .int n ∧ -1000000 ≤ n ∧ n ≤ 1000000 ∧ R ⟨(List.range n.toNat).map fun (i : Nat) => .int (i : Int), fun _ => True⟩ st1 fun st3 k => k st3) X) : wpI P F (.rng a) σ st R X := h
theorem w_os {e : IE} {Q : Option Int → Sto → Prop} (h : wpE P F e σ st (fun v st1 => ∃ i, v = .int i ∧ Q (some i) st1) X) : wpO P F (.som e) σ st Q X := h
theorem w_ov {Q : Option Int → Sto → Prop} (q : Q none st) : wpO P F .non σ st Q X := q
theorem it_tup {xs : List MV} {R : It → Sto → Prop} (h : R ⟨xs, fun _ => True⟩ st) : itemsOf (.tup xs) st R := h
theorem it_lst {p : Nat} {xs : List MV} {R : It → Sto → Prop} (hp : st[p]? = some (.lst xs)) (h : R ⟨xs, fun st' => st'[p]? = some (.lst xs)⟩ st) : itemsOf (.ref p) st R := by simp only [itemsOf, hp]; exact h
theorem w_lc {elt : IE} {tg : ITg} {it : II} {cond : IO} {own : List Nat} (h : wpI P F it σ st (fun J st1 fin => J.xs.length < big ∧
      loop J.ok (fun x acc st2 k => setTg tg x (wipeE σ own) fun σ2 => wpO' P F cond σ2 st2 (fun t st3 => if t then wpE P F elt σ2 st3 (fun y st4 => k (acc ++ [y]) st4) (fun _ _ _ => False) else k acc st3)) J.xs [] st1
        fun acc st5 => fin st5 fun st6 => Q (.ref st6.length) (st6 ++ [.lst acc])) X) : wpE P F (.lc elt tg it cond own) σ st Q X := h
end
theorem ix_nat {n i : Nat} (h : i < n) : ixOf n (i : Int) = some i := by
  unfold ixOf
  rw [if_pos (Int.natCast_nonneg i), if_pos (by omega)]
  simp
theorem ix_neg {n : Nat} (h : 0 < n) : ixOf n (-1) = some (n - 1) := by
  unfold ixOf
  rw [if_neg (by decide), if_pos (by omega)]
  congr 1
  omega
theorem at_first {x : MV} {r : List MV} : (ixOf (x :: r).length 0).bind ((x :: r)[·]?) = some x := by
  rw [show (0 : Int) = ((0 : Nat) : Int) from rfl, ix_nat (by simp)]
  rfl
theorem at_last {xs : List MV} {x : MV} : (ixOf (xs ++ [x]).length (-1)).bind ((xs ++ [x])[·]?) = some x := by
  rw [ix_neg (by simp)]
  simp
theorem if_yes {c : Bool} {A B : Prop} (h : c = true) (q : A) : if c = true then A else B := by rw [if_pos h]; exact q
theorem if_no {c : Bool} {A B : Prop} (h : c = false) (q : B) : if c = true then A else B := by rw [h]; exact q
/-- one call of a def -/
theorem sem_go {P : Prog} {k : Nat} {q : String} {d : IDef} {vs : List MV} {st : Sto} {Q : Post} {X : Xp} (hk : 1 ≤ k) (hd : P.df q = some d) (hl : vs.length = d.np)
    (h : wpSs P (sem P (k - 1)) d.body ⟨fun _ st' => Q .non st', Q, fun _ _ => False, fun _ _ => False, fun c v _ st' => X c v st'⟩ (vs.map some ++ List.replicate (d.ns - d.np) none) st) : sem P k q vs st Q X := by
  obtain ⟨j, rfl⟩ : ∃ j, k = j + 1 := ⟨k - 1, by omega⟩
  exact ⟨d, hd, hl, h⟩
/-- a dict of texts -/
theorem kLook_str {α : Type} (f : α → MV) (p : Tx) : ∀ l : List (Tx × α), kLook (.str p) (l.map fun e => (.str e.1, f e.2)) = (l.lookup p).map f
  | [] => rfl
  | (a, v) :: r => by
    show (if keyEq (.str a) (.str p) = true then some (f v) else kLook (.str p) (r.map fun e => (.str e.1, f e.2))) = _
    have e0 : keyEq (.str a) (.str p) = (a == p) := rfl
    rw [kLook_str f p r, List.lookup_cons]
    by_cases e : a = p
    · subst e
      rw [if_pos (by rw [e0]; simp)]
      simp
    · have e1 : (a == p) = false := by simp [e]
      have e2 : (p == a) = false := by simp [Ne.symm e]
      rw [if_neg (by rw [e0, e1]; exact Bool.false_ne_true), e2]
end Mi
-- B1
namespace Mi
local macro_rules | `(tactic| decreasing_trivial_pre_omega) => `(tactic| repeat (first | (with_reducible refine w_seq ?_) | (with_reducible refine w_set ?_) | (with_reducible refine w_asg ?_) | (with_reducible refine w_par ?_) | (with_reducible refine w_setsub ?_) | (with_reducible refine w_iff ?_) | (with_reducible refine w_ret ?_) | (with_reducible refine w_expr ?_) | (with_reducible refine w_end ?_) | (with_reducible refine w_con ?_) | (with_reducible refine w_bin ?_) | (with_reducible refine w_neg ?_) | (with_reducible refine w_cmp ?_) | (with_reducible refine w_chn ?_) | (with_reducible refine w_and ?_) | (with_reducible refine w_or ?_) | (with_reducible refine w_not ?_) | (with_reducible refine w_ite ?_) | (with_reducible refine w_sub ?_) | (with_reducible refine w_sli ?_) | (with_reducible refine w_rev ?_) | (with_reducible refine w_fld ?_) | (with_reducible refine w_call ?_) | (with_reducible refine w_bmt ?_) | (with_reducible refine w_blt ?_) | (with_reducible refine w_isi ?_) | (with_reducible refine w_lst ?_) | (with_reducible refine w_tup ?_) | (with_reducible refine w_nil ?_) | (with_reducible refine w_arg ?_) | (with_reducible refine w_star ?_) | (with_reducible refine w_tr ?_) | (with_reducible refine o_add ?_) | (with_reducible refine o_sub ?_) | (with_reducible refine o_mod (by omega) ?_) | (with_reducible refine o_div (by omega) (by omega) ?_) | (with_reducible refine b_int ?_) | (with_reducible refine b_abs ?_) | (with_reducible refine b_max ?_) | (with_reducible refine b_min ?_) | (with_reducible refine c_lt ?_) | (with_reducible refine c_le ?_) | (with_reducible refine c_gt ?_) | (with_reducible refine c_ge ?_) | (with_reducible refine e_int ?_) | (with_reducible refine e_str ?_) | (with_reducible refine n_int ?_) | (with_reducible refine n_str ?_) | (with_reducible refine l_tup ?_) | (with_reducible refine l_lsv ?_) | (with_reducible refine w_mth ?_) | (with_reducible refine is_str ?_) | (with_reducible refine u_tup ?_) | (with_reducible refine l_new ?_) | (with_reducible refine isN_non ?_) | (with_reducible refine notN_non ?_) | (with_reducible refine isN_tup ?_) | (with_reducible refine notN_tup ?_) | (with_reducible refine w_for ?_) | (with_reducible refine w_whl ?_) | (with_reducible refine w_ev ?_) | (with_reducible refine w_keys ?_) | (with_reducible refine w_rng ?_) | (with_reducible refine it_tup ?_) | (with_reducible refine w_lc ?_) | (with_reducible refine w_dic ?_) | (with_reducible refine w_pc ?_) | (with_reducible refine w_pn ?_) | (with_reducible refine w_tg ?_) | (with_reducible refine w_ng ?_) | (with_reducible refine w_cn ?_) | (with_reducible refine w_cs ?_) | (with_reducible refine w_os ?_) | (with_reducible refine w_ov ?_) | ((with_reducible apply w_var); exact rfl) | ((with_reducible refine if_yes ?_ ?_); exact rfl) | ((with_reducible refine if_no ?_ ?_); exact rfl)))
local macro_rules | `(tactic| array_get_dec) => `(tactic| repeat (first | (with_reducible refine w_seq ?_) | (with_reducible refine w_set ?_) | (with_reducible refine w_asg ?_) | (with_reducible refine w_par ?_) | (with_reducible refine w_setsub ?_) | (with_reducible refine w_iff ?_) | (with_reducible refine w_ret ?_) | (with_reducible refine w_expr ?_) | (with_reducible refine w_end ?_) | (with_reducible refine w_con ?_) | (with_reducible refine w_bin ?_) | (with_reducible refine w_neg ?_) | (with_reducible refine w_cmp ?_) | (with_reducible refine w_chn ?_) | (with_reducible refine w_and ?_) | (with_reducible refine w_or ?_) | (with_reducible refine w_not ?_) | (with_reducible refine w_ite ?_) | (with_reducible refine w_sub ?_) | (with_reducible refine w_sli ?_) | (with_reducible refine w_rev ?_) | (with_reducible refine w_fld ?_) | (with_reducible refine w_call ?_) | (with_reducible refine w_bmt ?_) | (with_reducible refine w_blt ?_) | (with_reducible refine w_isi ?_) | (with_reducible refine w_lst ?_) | (with_reducible refine w_tup ?_) | (with_reducible refine w_nil ?_) | (with_reducible refine w_arg ?_) | (with_reducible refine w_star ?_) | (with_reducible refine w_tr ?_) | (with_reducible refine o_add ?_) | (with_reducible refine o_sub ?_) | (with_reducible refine o_mod (by omega) ?_) | (with_reducible refine o_div (by omega) (by omega) ?_) | (with_reducible refine b_int ?_) | (with_reducible refine b_abs ?_) | (with_reducible refine b_max ?_) | (with_reducible refine b_min ?_) | (with_reducible refine c_lt ?_) | (with_reducible refine c_le ?_) | (with_reducible refine c_gt ?_) | (with_reducible refine c_ge ?_) | (with_reducible refine e_int ?_) | (with_reducible refine e_str ?_) | (with_reducible refine n_int ?_) | (with_reducible refine n_str ?_) | (with_reducible refine l_tup ?_) | (with_reducible refine l_lsv ?_) | (with_reducible refine w_mth ?_) | (with_reducible refine is_str ?_) | (with_reducible refine u_tup ?_) | (with_reducible refine l_new ?_) | (with_reducible refine isN_non ?_) | (with_reducible refine notN_non ?_) | (with_reducible refine isN_tup ?_) | (with_reducible refine notN_tup ?_) | (with_reducible refine w_for ?_) | (with_reducible refine w_whl ?_) | (with_reducible refine w_ev ?_) | (with_reducible refine w_keys ?_) | (with_reducible refine w_rng ?_) | (with_reducible refine it_tup ?_) | (with_reducible refine w_dic ?_) | (with_reducible refine w_pc ?_) | (with_reducible refine w_pn ?_) | (with_reducible refine w_tg ?_) | (with_reducible refine w_ng ?_) | (with_reducible refine w_cn ?_) | (with_reducible refine w_cs ?_) | (with_reducible refine w_os ?_) | (with_reducible refine w_ov ?_) | ((with_reducible apply w_var); exact rfl) | ((with_reducible refine if_yes ?_ ?_); exact rfl) | ((with_reducible refine if_no ?_ ?_); exact rfl)))
def d_take (m1 m2 m3 m4 : Int) : IDef := ⟨2, 5, [
    .iff (.cmp .gt (.sub (.var 0) (.con (.int 0))) (.con (.int 0))) [.asg (.name 4) (.bin .mod (.blt .int (.cons (.sub (.var 0) (.con (.int 0))) .nil)) (.var 1)), .setsub (.var 0) (.con (.int 0)) (.bin .fdiv (.sub (.var 0) (.con (.int 0))) (.var 1)), .ret (.var 4)] [],
    .setsub (.var 0) (.con (.int 2)) (.bin .add (.sub (.var 0) (.con (.int 2))) (.con (.int 1))),
    .asg (.name 2) (.sub (.lst (.cons (.con (.int 2147483647)) (.cons (.con (.int 2147483629)) (.cons (.con (.int 2147483587)) (.cons (.con (.int 2147483579)) (.cons (.con (.int 2147483563)) .nil)))))) (.bin .mod (.blt .int (.cons (.sub (.var 0) (.con (.int 2))) .nil)) (.con (.int 5)))),
    .asg (.name 3) (.bin .mod (.blt .int (.cons (.bin .pow (.blt .int (.cons (.bin .add (.bin .add (.sub (.var 0) (.con (.int 1))) (.bin .mul (.bin .mul (.con (.int m1)) (.sub (.var 0) (.con (.int 2)))) (.sub (.var 0) (.con (.int 2))))) (.con (.int m2))) .nil)) (.con (.int 3))) .nil)) (.var 2)),
    .asg (.name 3) (.bin .mod (.blt .int (.cons (.bin .mul (.var 3) (.bin .add (.bin .mod (.blt .int (.cons (.var 3) .nil)) (.con (.int m3))) (.bin .mul (.con (.int m4)) (.sub (.var 0) (.con (.int 2)))))) .nil)) (.con (.int 2305843009213693907))),
    .ret (.bin .mod (.blt .int (.cons (.bin .fdiv (.var 3) (.con (.int 139))) .nil)) (.var 1))]⟩
/-- the pot: its numbers are in bounds -/
def PotOk (a b c : Int) : Prop := 0 ≤ a ∧ 0 ≤ b ∧ b < 2305843009213693951 ∧ 0 ≤ c ∧ c < 1000000
theorem pow3 {x : Int} (h : x.natAbs < 2 ^ 100) : x.natAbs < 2 ^ 5000 := Nat.lt_of_lt_of_le h (Nat.pow_le_pow_right (by decide) (by decide))
theorem nA {x : Int} {n : Nat} (h0 : 0 ≤ x) (h : x < (n : Int)) : x.natAbs < n := by omega
theorem mul_b {a b : Int} {A B : Int} (h0 : 0 ≤ a) (h1 : a < A) (h2 : 0 ≤ b) (h3 : b < B) : 0 ≤ a * b ∧ a * b < A * B := by
  refine ⟨Int.mul_nonneg h0 h2, ?_⟩
  have hA : 0 < A := by omega
  exact Int.lt_of_le_of_lt (Int.mul_le_mul_of_nonneg_right (Int.le_of_lt h1) h2) (Int.mul_lt_mul_of_pos_left h3 hA)
theorem take_spec {P : Prog} {m1 m2 m3 m4 : Int} (hm : 0 ≤ m1 ∧ m1 < 1000000 ∧ 0 ≤ m2 ∧ m2 < 1000000 ∧ 0 < m3 ∧ m3 < 1000000 ∧ 0 ≤ m4 ∧ m4 < 1000000) {nm : String} (hP : P.df nm = some (d_take m1 m2 m3 m4)) {k : Nat} (hk : 1 ≤ k) {p : Nat} {a b c n : Int} {st : Sto} {Q : Post} {X : Xp} (hp : st[p]? = some (.lst [.int a, .int b, .int c])) (ok : PotOk a b c) (hn : 0 < n) (hn2 : n < 1000)
    (q : ∀ d a' c' st', 0 ≤ d → d < n → 0 ≤ a' → a' ≤ a → c ≤ c' → c' ≤ c + 1 → (∃ t, st' = (st ++ t).set p (.lst [.int a', .int b, .int c'])) → Q (.int d) st') : sem P k nm [.ref p, .int n] st Q X := by
  obtain ⟨k, rfl⟩ : ∃ j, k = j + 1 := ⟨k - 1, by omega⟩
  obtain ⟨o1, o2, o3, o4, o5⟩ := ok
  obtain ⟨n1, n2, n3, n4, n5, n6, n7, n8⟩ := hm
  refine ⟨_, hP, rfl, ?_⟩
  show wpSs P _ [_, _, _, _, _, _] _ [some (.ref p), some (.int n), none, none, none] st
  decreasing_trivial_pre_omega
  refine g_lst hp (by rfl) ?_
  decreasing_trivial_pre_omega
  by_cases ha : 0 < a
  · rw [decide_eq_true ha]
    rw [if_pos rfl]
    decreasing_trivial_pre_omega
    refine g_lst hp (by rfl) ?_
    decreasing_trivial_pre_omega
    refine g_lst hp (by rfl) ?_
    decreasing_trivial_pre_omega
    refine s_lst hp (by rfl) ?_
    decreasing_trivial_pre_omega
    refine q (a % n) (a / n) c _ (Int.emod_nonneg _ (by omega)) (Int.emod_lt_of_pos _ hn) (Int.ediv_nonneg o1 (by omega)) (Int.ediv_le_self _ o1) (Int.le_refl _) (by omega) ⟨[], by simp⟩
  · rw [decide_eq_false ha]
    rw [if_neg Bool.false_ne_true]
    decreasing_trivial_pre_omega
    refine g_lst hp (by rfl) ?_
    decreasing_trivial_pre_omega
    refine s_lst hp (by rfl) ?_
    have hp2 : (st.set p (.lst [.int a, .int b, .int (c + 1)]))[p]? = some (.lst [.int a, .int b, .int (c + 1)]) := get_set hp
    have hl : (st.set p (.lst [.int a, .int b, .int (c + 1)])).length = st.length := List.length_set
    generalize hS : st.set p (.lst ([MV.int a, MV.int b, MV.int c].set (Int.toNat 2) (.int (c + 1)))) = S
    have hp3 : S[p]? = some (.lst [.int a, .int b, .int (c + 1)]) := by rw [← hS]; exact hp2
    decreasing_trivial_pre_omega
    refine ⟨by decide, ?_⟩
    have hp4 : ∀ t : Sto, (S ++ t)[p]? = some (.lst [.int a, .int b, .int (c + 1)]) := fun t => get_app hp3
    decreasing_trivial_pre_omega
    refine g_lst (hp4 _) (by rfl) ?_
    decreasing_trivial_pre_omega
    have h5 : 0 ≤ (c + 1) % 5 ∧ (c + 1) % 5 < 5 := ⟨Int.emod_nonneg _ (by decide), Int.emod_lt_of_pos _ (by decide)⟩
    obtain ⟨pr, hpr, hpv, hpv2⟩ : ∃ pr : Int, (ixOf [MV.int 2147483647, MV.int 2147483629, MV.int 2147483587, MV.int 2147483579, MV.int 2147483563].length ((c + 1) % 5)).bind ([MV.int 2147483647, MV.int 2147483629, MV.int 2147483587, MV.int 2147483579, MV.int 2147483563][·]?) = some (.int pr) ∧ 0 < pr ∧ pr < 2147483648 := by
      obtain h | h | h | h | h : (c + 1) % 5 = 0 ∨ (c + 1) % 5 = 1 ∨ (c + 1) % 5 = 2 ∨ (c + 1) % 5 = 3 ∨ (c + 1) % 5 = 4 := by omega
      all_goals (rw [h]; exact ⟨_, rfl, by decide, by decide⟩)
    refine g_lst get_new hpr ?_
    decreasing_trivial_pre_omega
    refine g_lst (hp4 _) (by rfl) ?_
    decreasing_trivial_pre_omega
    refine g_lst (hp4 _) (by rfl) ?_
    decreasing_trivial_pre_omega
    have hc1 : 0 ≤ c + 1 ∧ c + 1 < 1000001 := ⟨by omega, by omega⟩
    refine o_mul (.inr (nA hc1.1 (by omega))) ?_
    obtain ⟨x1, x2⟩ := mul_b n1 n2 hc1.1 hc1.2
    decreasing_trivial_pre_omega
    refine g_lst (hp4 _) (by rfl) ?_
    decreasing_trivial_pre_omega
    refine o_mul (.inr (nA hc1.1 (by omega))) ?_
    obtain ⟨x3, x4⟩ := mul_b x1 x2 hc1.1 hc1.2
    decreasing_trivial_pre_omega
    generalize hB : b + m1 * (c + 1) * (c + 1) + m2 = B
    have hB0 : 0 ≤ B := by omega
    have hB1 : B < 2305843009213693951 + 1000000 * 1000001 * 1000001 + 1000000 := by omega
    refine o_pow (by decide) (by decide) (pow3 (nA hB0 (by omega))) ?_
    decreasing_trivial_pre_omega
    generalize hE : B ^ (3 : Int).toNat % pr = E
    have hE0 : 0 ≤ E := by rw [← hE]; exact Int.emod_nonneg _ (by omega)
    have hE1 : E < pr := by rw [← hE]; exact Int.emod_lt_of_pos _ hpv
    refine g_lst (hp4 _) (by rfl) ?_
    decreasing_trivial_pre_omega
    refine o_mul (.inr (nA hc1.1 (by omega))) ?_
    obtain ⟨y1, y2⟩ := mul_b n7 n8 hc1.1 hc1.2
    decreasing_trivial_pre_omega
    refine o_mul (.inl (nA hE0 (by omega))) ?_
    decreasing_trivial_pre_omega
    refine q _ a (c + 1) _ (Int.emod_nonneg _ (by omega)) (Int.emod_lt_of_pos _ hn) o1 (Int.le_refl _) (by omega) (Int.le_refl _) ⟨[.lst [.int 2147483647, .int 2147483629, .int 2147483587, .int 2147483579, .int 2147483563]], ?_⟩
    rw [List.set_append_left _ _ (List.getElem?_eq_some_iff.mp hp).1, ← hS]
    rfl
/-! ### what stays -/
/-- all that stood stays, but for W -/
structure Keep (W : List Nat) (st st' : Sto) : Prop where
  le : st.length ≤ st'.length
  at_ : ∀ b o, b ∉ W → st[b]? = some o → st'[b]? = some o
theorem Keep.refl (W : List Nat) (st : Sto) : Keep W st st := ⟨Nat.le_refl _, fun _ _ _ h => h⟩
theorem Keep.trans {W : List Nat} {a b c : Sto} (x : Keep W a b) (y : Keep W b c) : Keep W a c := ⟨Nat.le_trans x.le y.le, fun i o n h => y.at_ i o n (x.at_ i o n h)⟩
theorem Keep.mono {W V : List Nat} {a b : Sto} (x : Keep W a b) (h : ∀ i ∈ W, i ∈ V) : Keep V a b := ⟨x.le, fun i o n q => x.at_ i o (fun z => n (h i z)) q⟩
theorem Keep.app (W : List Nat) (st t : Sto) : Keep W st (st ++ t) := ⟨by simp, fun _ _ _ h => get_app h⟩
theorem Keep.set {W : List Nat} {st : Sto} {p : Nat} (o : MO) (h : p ∈ W) : Keep W st (st.set p o) := ⟨by simp, fun b _ n q => get_other (fun z => n (z ▸ h)) q⟩
/-- a write to what is new -/
theorem Keep.new {W : List Nat} {st0 st : Sto} {p : Nat} (o : MO) (x : Keep W st0 st) (h : st0.length ≤ p) : Keep W st0 (st.set p o) :=
  ⟨by simpa using x.le, fun b _ n q => get_other (fun z => by have := (List.getElem?_eq_some_iff.mp q).1; omega) (x.at_ b _ n q)⟩
/-- a pot with m draws left at least -/
def Pot (m : Nat) (st : Sto) (p : Nat) : Prop := ∃ a b c : Int, st[p]? = some (.lst [.int a, .int b, .int c]) ∧ 0 ≤ a ∧ 0 ≤ b ∧ b < 2305843009213693951 ∧ 0 ≤ c ∧ c + m < 1000000
theorem Pot.keep {m : Nat} {st st' : Sto} {p : Nat} {W : List Nat} (h : Pot m st p) (k : Keep W st st') (n : p ∉ W) : Pot m st' p := by
  obtain ⟨a, b, c, e, r⟩ := h
  exact ⟨a, b, c, k.at_ _ _ n e, r⟩
theorem Pot.less {m j : Nat} {st : Sto} {p : Nat} (h : Pot m st p) (l : j ≤ m) : Pot j st p := by
  obtain ⟨a, b, c, e, r1, r2, r3, r4, r5⟩ := h
  exact ⟨a, b, c, e, r1, r2, r3, r4, by omega⟩
theorem take_ok {P : Prog} {m1 m2 m3 m4 : Int} (hm : 0 ≤ m1 ∧ m1 < 1000000 ∧ 0 ≤ m2 ∧ m2 < 1000000 ∧ 0 < m3 ∧ m3 < 1000000 ∧ 0 ≤ m4 ∧ m4 < 1000000) {nm : String} (hP : P.df nm = some (d_take m1 m2 m3 m4)) {k : Nat} (hk : 1 ≤ k) {p m : Nat} {n : Int} {st : Sto} {Q : Post} {X : Xp}
    (hp : Pot (m + 1) st p) (hn : 0 < n) (hn2 : n < 1000) (q : ∀ d st', 0 ≤ d → d < n → Pot m st' p → Keep [p] st st' → Q (.int d) st') : sem P k nm [.ref p, .int n] st Q X := by
  obtain ⟨a, b, c, e, r1, r2, r3, r4, r5⟩ := hp
  refine take_spec hm hP hk e ⟨r1, r2, r3, r4, by omega⟩ hn hn2 fun d a' c' st' d0 d1 ha0 ha1 hc0 hc1 ⟨t, hs⟩ => q d st' d0 d1 ⟨a', b, c', ?_, ha0, r2, r3, by omega, by omega⟩ ?_
  · rw [hs]; exact get_set (get_app e)
  · rw [hs]
    exact (Keep.app [p] st t).trans (Keep.set _ (by simp))
end Mi
-- B4
namespace Mi
local macro_rules | `(tactic| decreasing_trivial_pre_omega) => `(tactic| repeat (first | (with_reducible refine w_seq ?_) | (with_reducible refine w_set ?_) | (with_reducible refine w_asg ?_) | (with_reducible refine w_par ?_) | (with_reducible refine w_setsub ?_) | (with_reducible refine w_iff ?_) | (with_reducible refine w_ret ?_) | (with_reducible refine w_expr ?_) | (with_reducible refine w_end ?_) | (with_reducible refine w_con ?_) | (with_reducible refine w_bin ?_) | (with_reducible refine w_neg ?_) | (with_reducible refine w_cmp ?_) | (with_reducible refine w_chn ?_) | (with_reducible refine w_and ?_) | (with_reducible refine w_or ?_) | (with_reducible refine w_not ?_) | (with_reducible refine w_ite ?_) | (with_reducible refine w_sub ?_) | (with_reducible refine w_sli ?_) | (with_reducible refine w_rev ?_) | (with_reducible refine w_fld ?_) | (with_reducible refine w_call ?_) | (with_reducible refine w_bmt ?_) | (with_reducible refine w_blt ?_) | (with_reducible refine w_isi ?_) | (with_reducible refine w_lst ?_) | (with_reducible refine w_tup ?_) | (with_reducible refine w_nil ?_) | (with_reducible refine w_arg ?_) | (with_reducible refine w_star ?_) | (with_reducible refine w_tr ?_) | (with_reducible refine o_add ?_) | (with_reducible refine o_sub ?_) | (with_reducible refine o_mod (by omega) ?_) | (with_reducible refine o_div (by omega) (by omega) ?_) | (with_reducible refine b_int ?_) | (with_reducible refine b_abs ?_) | (with_reducible refine b_max ?_) | (with_reducible refine b_min ?_) | (with_reducible refine c_lt ?_) | (with_reducible refine c_le ?_) | (with_reducible refine c_gt ?_) | (with_reducible refine c_ge ?_) | (with_reducible refine e_int ?_) | (with_reducible refine e_str ?_) | (with_reducible refine n_int ?_) | (with_reducible refine n_str ?_) | (with_reducible refine l_tup ?_) | (with_reducible refine l_lsv ?_) | (with_reducible refine w_mth ?_) | (with_reducible refine is_str ?_) | (with_reducible refine u_tup ?_) | (with_reducible refine l_new ?_) | (with_reducible refine isN_non ?_) | (with_reducible refine notN_non ?_) | (with_reducible refine isN_tup ?_) | (with_reducible refine notN_tup ?_) | (with_reducible refine w_for ?_) | (with_reducible refine w_whl ?_) | (with_reducible refine w_ev ?_) | (with_reducible refine w_keys ?_) | (with_reducible refine w_rng ?_) | (with_reducible refine it_tup ?_) | (with_reducible refine w_lc ?_) | (with_reducible refine w_dic ?_) | (with_reducible refine w_pc ?_) | (with_reducible refine w_pn ?_) | (with_reducible refine w_tg ?_) | (with_reducible refine w_ng ?_) | (with_reducible refine w_cn ?_) | (with_reducible refine w_cs ?_) | (with_reducible refine w_os ?_) | (with_reducible refine w_ov ?_) | ((with_reducible apply w_var); exact rfl) | ((with_reducible refine if_yes ?_ ?_); exact rfl) | ((with_reducible refine if_no ?_ ?_); exact rfl)))
local macro_rules | `(tactic| array_get_dec) => `(tactic| repeat (first | (with_reducible refine w_seq ?_) | (with_reducible refine w_set ?_) | (with_reducible refine w_asg ?_) | (with_reducible refine w_par ?_) | (with_reducible refine w_setsub ?_) | (with_reducible refine w_iff ?_) | (with_reducible refine w_ret ?_) | (with_reducible refine w_expr ?_) | (with_reducible refine w_end ?_) | (with_reducible refine w_con ?_) | (with_reducible refine w_bin ?_) | (with_reducible refine w_neg ?_) | (with_reducible refine w_cmp ?_) | (with_reducible refine w_chn ?_) | (with_reducible refine w_and ?_) | (with_reducible refine w_or ?_) | (with_reducible refine w_not ?_) | (with_reducible refine w_ite ?_) | (with_reducible refine w_sub ?_) | (with_reducible refine w_sli ?_) | (with_reducible refine w_rev ?_) | (with_reducible refine w_fld ?_) | (with_reducible refine w_call ?_) | (with_reducible refine w_bmt ?_) | (with_reducible refine w_blt ?_) | (with_reducible refine w_isi ?_) | (with_reducible refine w_lst ?_) | (with_reducible refine w_tup ?_) | (with_reducible refine w_nil ?_) | (with_reducible refine w_arg ?_) | (with_reducible refine w_star ?_) | (with_reducible refine w_tr ?_) | (with_reducible refine o_add ?_) | (with_reducible refine o_sub ?_) | (with_reducible refine o_mod (by omega) ?_) | (with_reducible refine o_div (by omega) (by omega) ?_) | (with_reducible refine b_int ?_) | (with_reducible refine b_abs ?_) | (with_reducible refine b_max ?_) | (with_reducible refine b_min ?_) | (with_reducible refine c_lt ?_) | (with_reducible refine c_le ?_) | (with_reducible refine c_gt ?_) | (with_reducible refine c_ge ?_) | (with_reducible refine e_int ?_) | (with_reducible refine e_str ?_) | (with_reducible refine n_int ?_) | (with_reducible refine n_str ?_) | (with_reducible refine l_tup ?_) | (with_reducible refine l_lsv ?_) | (with_reducible refine w_mth ?_) | (with_reducible refine is_str ?_) | (with_reducible refine u_tup ?_) | (with_reducible refine l_new ?_) | (with_reducible refine isN_non ?_) | (with_reducible refine notN_non ?_) | (with_reducible refine isN_tup ?_) | (with_reducible refine notN_tup ?_) | (with_reducible refine w_for ?_) | (with_reducible refine w_whl ?_) | (with_reducible refine w_ev ?_) | (with_reducible refine w_keys ?_) | (with_reducible refine w_rng ?_) | (with_reducible refine it_tup ?_) | (with_reducible refine w_dic ?_) | (with_reducible refine w_pc ?_) | (with_reducible refine w_pn ?_) | (with_reducible refine w_tg ?_) | (with_reducible refine w_ng ?_) | (with_reducible refine w_cn ?_) | (with_reducible refine w_cs ?_) | (with_reducible refine w_os ?_) | (with_reducible refine w_ov ?_) | ((with_reducible apply w_var); exact rfl) | ((with_reducible refine if_yes ?_ ?_); exact rfl) | ((with_reducible refine if_no ?_ ?_); exact rfl)))
/-! ### a box -/
structure BoxD where
  text : Tx
  ins : List (Tx × Int × List Tx)
  outs : List (Tx × Int × List Tx)
  steps : List (Tx × List (List Tx))
abbrev stepV (s : List Tx) : MV := .tup (s.map .str)
abbrev stepsV (ss : List (List Tx)) : MV := .tup (ss.map stepV)
abbrev lineV (l : Tx × Int × List Tx) : MV := .tup [.str l.1, .int l.2.1, .tup (l.2.2.map .str)]
def BoxD.kvs (D : BoxD) : List (MV × MV) := D.steps.map fun e => (.str e.1, stepsV e.2)
def BoxD.wts (D : BoxD) : List (Tx × Int) := (D.ins ++ D.outs).map fun l => (l.1, l.2.1)
def BoxD.wkv (D : BoxD) : List (MV × MV) := D.wts.map fun e => (.str e.1, .int e.2)
abbrev BoxD.fs (D : BoxD) (ds dw : Nat) : List (String × MV) := [("own_text", .str D.text), ("own_ins", .tup (D.ins.map lineV)), ("own_outs", .tup (D.outs.map lineV)), ("own_steps", .ref ds), ("own_weights", .ref dw)]
/-- the box stands at b -/
structure BoxAt (st : Sto) (b ds dw : Nat) (D : BoxD) : Prop where
  ob : st[b]? = some (.ins "Box" (D.fs ds dw))
  stp : st[ds]? = some (.dic false D.kvs)
  wt : st[dw]? = some (.dic false D.wkv)
theorem BoxAt.keep {st st' : Sto} {b ds dw : Nat} {D : BoxD} {W : List Nat} (h : BoxAt st b ds dw D) (k : Keep W st st') (h1 : b ∉ W) (h2 : ds ∉ W) (h3 : dw ∉ W) : BoxAt st' b ds dw D :=
  ⟨k.at_ _ _ h1 h.ob, k.at_ _ _ h2 h.stp, k.at_ _ _ h3 h.wt⟩
def d_getitem : IDef := ⟨2, 2, [
    .iff (.or (.not (.isi (.var 1) .str)) (.cmp .nin (.var 1) (.fld (.var 0) "own_steps"))) [.bad] [],
    .ret (.sub (.fld (.var 0) "own_steps") (.var 1))]⟩
def d_gain : IDef := ⟨2, 2, [
    .iff (.cmp .eq (.sub (.var 1) (.con (.int 0))) (.con (.str [116, 117, 114, 110]))) [.ret (.con (.int 0))] [],
    .ret (.ite (.cmp .eq (.sub (.var 1) (.con (.int 0))) (.con (.str [116, 97, 107, 101]))) (.sub (.fld (.var 0) "own_weights") (.sub (.var 1) (.con (.int 1)))) (.neg (.sub (.fld (.var 0) "own_weights") (.sub (.var 1) (.con (.int 1))))))]⟩
def d_first : IDef := ⟨1, 1, [.ret (.sub (.fld (.var 0) "places") (.con (.int 0)))]⟩
def d_places : IDef := ⟨1, 1, [.ret (.blt .tuple (.cons (.fld (.var 0) "own_steps") .nil))]⟩
/-- the program has the box's defs -/
structure HasBox (P : Prog) : Prop where
  gi : P.df "Box.__getitem__" = some d_getitem
  gn : P.df "Box.gain" = some d_gain
  fi : P.df "Box.first" = some d_first
  pl : P.df "Box.places" = some d_places
  mgi : P.mt "Box" "__getitem__" = some "Box.__getitem__"
  mgn : P.mt "Box" "gain" = some "Box.gain"
  pfi : P.pr "Box" "first" = some (some "Box.first")
  ppl : P.pr "Box" "places" = some (some "Box.places")
  ps : P.pr "Box" "own_steps" = some none
  pw : P.pr "Box" "own_weights" = some none
section
variable {P : Prog} (B : HasBox P) {k : Nat} {st : Sto} {b ds dw : Nat} {D : BoxD} {Q : Post} {X : Xp} (h : BoxAt st b ds dw D)
include B h
theorem getitem_ok (hk : 1 ≤ k) {p : Tx} {ss : List (List Tx)} (hp : D.steps.lookup p = some ss) (q : Q (stepsV ss) st) : sem P k "Box.__getitem__" [.ref b, .str p] st Q X := by
  refine sem_go hk B.gi rfl ?_
  have hl : kLook (.str p) D.kvs = some (stepsV ss) := by rw [BoxD.kvs, kLook_str stepsV, hp]; rfl
  show wpSs P _ [_, _] _ [some (.ref b), some (.str p)] st
  decreasing_trivial_pre_omega
  refine f_at h.ob B.ps rfl ?_
  refine ni_dic h.stp rfl ?_
  rw [hl]
  decreasing_trivial_pre_omega
  refine f_at h.ob B.ps rfl ?_
  decreasing_trivial_pre_omega
  exact g_dic h.stp rfl hl q
theorem places_ok (hk : 1 ≤ k) (q : Q (.tup (D.steps.map fun e => .str e.1)) st) : sem P k "Box.places" [.ref b] st Q X := by
  refine sem_go hk B.pl rfl ?_
  show wpSs P _ [_] _ [some (.ref b)] st
  decreasing_trivial_pre_omega
  refine f_at h.ob B.ps rfl ?_
  decreasing_trivial_pre_omega
  refine u_dic h.stp ?_
  have e : keysOf D.kvs = D.steps.map fun e => .str e.1 := by simp [keysOf, BoxD.kvs, List.map_map, Function.comp_def]
  rw [e]
  exact q
theorem first_ok (hk : 2 ≤ k) {p : Tx} {ss : List (List Tx)} {r : List (Tx × List (List Tx))} (hs : D.steps = (p, ss) :: r) (q : Q (.str p) st) : sem P k "Box.first" [.ref b] st Q X := by
  refine sem_go (by omega) B.fi rfl ?_
  show wpSs P _ [_] _ [some (.ref b)] st
  decreasing_trivial_pre_omega
  refine f_prop h.ob B.ppl ?_
  refine places_ok B h (by omega) ?_
  decreasing_trivial_pre_omega
  refine g_tup ?_ q
  rw [hs]
  exact at_first
/-- by how much a step makes the load greater -/
def BoxD.gain (D : BoxD) : List Tx → Int
  | [116, 117, 114, 110] :: _ => 0
  | [116, 97, 107, 101] :: l :: _ => (D.wts.lookup l).getD 0
  | _ :: l :: _ => -(D.wts.lookup l).getD 0
  | _ => 0
/-- a step that can stand -/
def BoxD.fits (D : BoxD) : List Tx → Prop
  | [[116, 117, 114, 110], _] => True
  | [w, l, _, _] => (w = [116, 97, 107, 101] ∨ w = [112, 117, 116]) ∧ (D.wts.lookup l).isSome
  | _ => False
theorem gain_ok (hk : 1 ≤ k) {s : List Tx} (hf : D.fits s) (q : Q (.int (D.gain s)) st) : sem P k "Box.gain" [.ref b, stepV s] st Q X := by
  refine sem_go hk B.gn rfl ?_
  show wpSs P _ [_, _] _ [some (.ref b), some (stepV s)] st
  unfold BoxD.fits at hf
  split at hf
  · rename_i t
    decreasing_trivial_pre_omega
    refine g_tup (by rfl) ?_
    decreasing_trivial_pre_omega
    exact q
  · rename_i w l t u
    obtain ⟨hw, hl⟩ := hf
    obtain ⟨n, hn⟩ := Option.isSome_iff_exists.mp hl
    have hk' : kLook (.str l) D.wkv = some (.int n) := by rw [BoxD.wkv, kLook_str MV.int, hn]; rfl
    rcases hw with rfl | rfl
    · decreasing_trivial_pre_omega
      refine g_tup (by rfl) ?_
      decreasing_trivial_pre_omega
      refine g_tup (by rfl) ?_
      decreasing_trivial_pre_omega
      refine f_at h.ob B.pw rfl ?_
      decreasing_trivial_pre_omega
      refine g_tup (by rfl) ?_
      refine g_dic h.wt rfl hk' ?_
      simpa [BoxD.gain, hn] using q
    · decreasing_trivial_pre_omega
      refine g_tup (by rfl) ?_
      decreasing_trivial_pre_omega
      refine g_tup (by rfl) ?_
      decreasing_trivial_pre_omega
      refine f_at h.ob B.pw rfl ?_
      decreasing_trivial_pre_omega
      refine g_tup (by rfl) ?_
      refine g_dic h.wt rfl hk' ?_
      refine ⟨n, rfl, ?_⟩
      simpa [BoxD.gain, hn] using q
  · exact hf.elim
end
end Mi
-- B5
namespace Mi
local macro_rules | `(tactic| decreasing_trivial_pre_omega) => `(tactic| repeat (first | (with_reducible refine w_seq ?_) | (with_reducible refine w_set ?_) | (with_reducible refine w_asg ?_) | (with_reducible refine w_par ?_) | (with_reducible refine w_setsub ?_) | (with_reducible refine w_iff ?_) | (with_reducible refine w_ret ?_) | (with_reducible refine w_expr ?_) | (with_reducible refine w_end ?_) | (with_reducible refine w_con ?_) | (with_reducible refine w_bin ?_) | (with_reducible refine w_neg ?_) | (with_reducible refine w_cmp ?_) | (with_reducible refine w_chn ?_) | (with_reducible refine w_and ?_) | (with_reducible refine w_or ?_) | (with_reducible refine w_not ?_) | (with_reducible refine w_ite ?_) | (with_reducible refine w_sub ?_) | (with_reducible refine w_sli ?_) | (with_reducible refine w_rev ?_) | (with_reducible refine w_fld ?_) | (with_reducible refine w_call ?_) | (with_reducible refine w_bmt ?_) | (with_reducible refine w_blt ?_) | (with_reducible refine w_isi ?_) | (with_reducible refine w_lst ?_) | (with_reducible refine w_tup ?_) | (with_reducible refine w_nil ?_) | (with_reducible refine w_arg ?_) | (with_reducible refine w_star ?_) | (with_reducible refine w_tr ?_) | (with_reducible refine o_add ?_) | (with_reducible refine o_sub ?_) | (with_reducible refine o_mod (by omega) ?_) | (with_reducible refine o_div (by omega) (by omega) ?_) | (with_reducible refine b_int ?_) | (with_reducible refine b_abs ?_) | (with_reducible refine b_max ?_) | (with_reducible refine b_min ?_) | (with_reducible refine c_lt ?_) | (with_reducible refine c_le ?_) | (with_reducible refine c_gt ?_) | (with_reducible refine c_ge ?_) | (with_reducible refine e_int ?_) | (with_reducible refine e_str ?_) | (with_reducible refine n_int ?_) | (with_reducible refine n_str ?_) | (with_reducible refine l_tup ?_) | (with_reducible refine l_lsv ?_) | (with_reducible refine w_mth ?_) | (with_reducible refine is_str ?_) | (with_reducible refine u_tup ?_) | (with_reducible refine l_new ?_) | (with_reducible refine isN_non ?_) | (with_reducible refine notN_non ?_) | (with_reducible refine isN_tup ?_) | (with_reducible refine notN_tup ?_) | (with_reducible refine w_for ?_) | (with_reducible refine w_whl ?_) | (with_reducible refine w_ev ?_) | (with_reducible refine w_keys ?_) | (with_reducible refine w_rng ?_) | (with_reducible refine it_tup ?_) | (with_reducible refine w_lc ?_) | (with_reducible refine w_dic ?_) | (with_reducible refine w_pc ?_) | (with_reducible refine w_pn ?_) | (with_reducible refine w_tg ?_) | (with_reducible refine w_ng ?_) | (with_reducible refine w_cn ?_) | (with_reducible refine w_cs ?_) | (with_reducible refine w_os ?_) | (with_reducible refine w_ov ?_) | ((with_reducible apply w_var); exact rfl) | ((with_reducible refine if_yes ?_ ?_); exact rfl) | ((with_reducible refine if_no ?_ ?_); exact rfl)))
local macro_rules | `(tactic| array_get_dec) => `(tactic| repeat (first | (with_reducible refine w_seq ?_) | (with_reducible refine w_set ?_) | (with_reducible refine w_asg ?_) | (with_reducible refine w_par ?_) | (with_reducible refine w_setsub ?_) | (with_reducible refine w_iff ?_) | (with_reducible refine w_ret ?_) | (with_reducible refine w_expr ?_) | (with_reducible refine w_end ?_) | (with_reducible refine w_con ?_) | (with_reducible refine w_bin ?_) | (with_reducible refine w_neg ?_) | (with_reducible refine w_cmp ?_) | (with_reducible refine w_chn ?_) | (with_reducible refine w_and ?_) | (with_reducible refine w_or ?_) | (with_reducible refine w_not ?_) | (with_reducible refine w_ite ?_) | (with_reducible refine w_sub ?_) | (with_reducible refine w_sli ?_) | (with_reducible refine w_rev ?_) | (with_reducible refine w_fld ?_) | (with_reducible refine w_call ?_) | (with_reducible refine w_bmt ?_) | (with_reducible refine w_blt ?_) | (with_reducible refine w_isi ?_) | (with_reducible refine w_lst ?_) | (with_reducible refine w_tup ?_) | (with_reducible refine w_nil ?_) | (with_reducible refine w_arg ?_) | (with_reducible refine w_star ?_) | (with_reducible refine w_tr ?_) | (with_reducible refine o_add ?_) | (with_reducible refine o_sub ?_) | (with_reducible refine o_mod (by omega) ?_) | (with_reducible refine o_div (by omega) (by omega) ?_) | (with_reducible refine b_int ?_) | (with_reducible refine b_abs ?_) | (with_reducible refine b_max ?_) | (with_reducible refine b_min ?_) | (with_reducible refine c_lt ?_) | (with_reducible refine c_le ?_) | (with_reducible refine c_gt ?_) | (with_reducible refine c_ge ?_) | (with_reducible refine e_int ?_) | (with_reducible refine e_str ?_) | (with_reducible refine n_int ?_) | (with_reducible refine n_str ?_) | (with_reducible refine l_tup ?_) | (with_reducible refine l_lsv ?_) | (with_reducible refine w_mth ?_) | (with_reducible refine is_str ?_) | (with_reducible refine u_tup ?_) | (with_reducible refine l_new ?_) | (with_reducible refine isN_non ?_) | (with_reducible refine notN_non ?_) | (with_reducible refine isN_tup ?_) | (with_reducible refine notN_tup ?_) | (with_reducible refine w_for ?_) | (with_reducible refine w_whl ?_) | (with_reducible refine w_ev ?_) | (with_reducible refine w_keys ?_) | (with_reducible refine w_rng ?_) | (with_reducible refine it_tup ?_) | (with_reducible refine w_dic ?_) | (with_reducible refine w_pc ?_) | (with_reducible refine w_pn ?_) | (with_reducible refine w_tg ?_) | (with_reducible refine w_ng ?_) | (with_reducible refine w_cn ?_) | (with_reducible refine w_cs ?_) | (with_reducible refine w_os ?_) | (with_reducible refine w_ov ?_) | ((with_reducible apply w_var); exact rfl) | ((with_reducible refine if_yes ?_ ?_); exact rfl) | ((with_reducible refine if_no ?_ ?_); exact rfl)))
theorem len_le_of_sub {α : Type} [DecidableEq α] : ∀ {l m : List α}, l.Nodup → (∀ x ∈ l, x ∈ m) → l.length ≤ m.length
  | [], m, _, _ => Nat.zero_le _
  | x :: l, m, hn, hs => by
    have hx := hs x List.mem_cons_self
    have h1 : l.length ≤ (m.erase x).length := len_le_of_sub (List.nodup_cons.mp hn).2 fun y hy => by
      have hne : y ≠ x := fun e => (List.nodup_cons.mp hn).1 (e ▸ hy)
      exact (List.mem_erase_of_ne hne).mpr (hs y (List.mem_cons_of_mem _ hy))
    have h2 := List.length_erase_of_mem hx
    have h3 := List.length_pos_of_mem hx
    simp only [List.length_cons]
    omega
/-! ### the graph of a box -/
def tgt (s : List Tx) : Tx := s.getLastD []
def BoxD.places (D : BoxD) : List Tx := D.steps.map (·.1)
def BoxD.at_ (D : BoxD) (p : Tx) : List (List Tx) := (D.steps.lookup p).getD []
def okTx (x : Tx) : Prop := ∀ c ∈ x, c < 1114112
/-- a box that can be walked -/
structure BoxD.WF (D : BoxD) : Prop where
  nd : D.places.Nodup
  few : D.steps.length ≤ 40
  ne : D.steps ≠ []
  ok : ∀ p ∈ D.places, okTx p
  fit : ∀ p, ∀ s ∈ D.at_ p, D.fits s ∧ s ≠ [] ∧ tgt s ∈ D.places
theorem BoxD.look {D : BoxD} {p : Tx} (h : p ∈ D.places) : D.steps.lookup p = some (D.at_ p) := by
  unfold BoxD.at_
  have : ∃ ss, D.steps.lookup p = some ss := by
    unfold BoxD.places at h
    generalize D.steps = l at h
    induction l with
    | nil => simp at h
    | cons a r ih =>
      obtain ⟨q, ss⟩ := a
      rw [List.lookup_cons]
      by_cases e : p = q
      · subst e; exact ⟨ss, by simp⟩
      · have e2 : (p == q) = false := by simp [e]
        rw [e2]
        exact ih (by simpa [e] using h)
  obtain ⟨ss, hs⟩ := this
  rw [hs]
  rfl
abbrev Fnd := List (Tx × Option (Tx × List Tx))
def lnkV : Option (Tx × List Tx) → MV
  | none => .non
  | some (p, s) => .tup [.str p, stepV s]
def fndV (fs : Fnd) : List (MV × MV) := fs.map fun e => (.str e.1, lnkV e.2)
abbrev keysF (fs : Fnd) : List Tx := fs.map (·.1)
/-- each key but the first is led to by a step of an earlier one -/
def Links (D : BoxD) (fs : Fnd) : Prop := ∀ l1 q o l2, fs = l1 ++ (q, o) :: l2 → (o = none ∧ l1 = []) ∨ ∃ p s, o = some (p, s) ∧ p ∈ keysF l1 ∧ s ∈ D.at_ p ∧ tgt s = q
structure MetOk (D : BoxD) (b : Tx) (fs : Fnd) : Prop where
  hd : ∃ r, fs = (b, none) :: r
  lk : Links D fs
  nd : (keysF fs).Nodup
  sub : ∀ p ∈ keysF fs, p ∈ D.places
  cl : ∀ p ∈ keysF fs, ∀ s ∈ D.at_ p, tgt s ∈ keysF fs
theorem Links.snoc {D : BoxD} {fs : Fnd} (h : Links D fs) {p q : Tx} {s : List Tx} (hp : p ∈ keysF fs) (hs : s ∈ D.at_ p) (ht : tgt s = q) : Links D (fs ++ [(q, some (p, s))]) := by
  intro l1 q' o l2 e
  rcases List.eq_nil_or_concat l2 with rfl | ⟨l3, y, rfl⟩
  · have := List.append_inj' e rfl
    obtain ⟨rfl, e2⟩ := this
    simp only [List.cons.injEq, Prod.mk.injEq, and_true] at e2
    obtain ⟨rfl, rfl⟩ := e2
    exact .inr ⟨p, s, rfl, hp, hs, ht⟩
  · rw [List.concat_eq_append, ← List.cons_append, ← List.append_assoc] at e
    have := List.append_inj' e rfl
    exact h l1 q' o l3 this.1
theorem keysF_snoc (fs : Fnd) (q : Tx) (o : Option (Tx × List Tx)) : keysF (fs ++ [(q, o)]) = keysF fs ++ [q] := by simp
theorem look_mem {fs : Fnd} {q : Tx} : (fs.lookup q).isSome = true ↔ q ∈ keysF fs := by
  induction fs with
  | nil => simp
  | cons a r ih =>
    obtain ⟨p, o⟩ := a
    rw [List.lookup_cons]
    by_cases e : q = p
    · subst e; simp
    · have e2 : (q == p) = false := by simp [e]
      rw [e2]
      simp only [List.map_cons, List.mem_cons, e, false_or]
      exact ih
theorem fnd_in {fs : Fnd} {q : Tx} : (kLook (.str q) (fndV fs)).isSome = decide (q ∈ keysF fs) := by
  unfold fndV
  rw [kLook_str lnkV q fs, Option.isSome_map]
  by_cases h : q ∈ keysF fs
  · rw [look_mem.mpr h]; simp [h]
  · have : (fs.lookup q).isSome = false := by
      cases e : (fs.lookup q).isSome with
      | false => rfl
      | true => exact absurd (look_mem.mp e) h
    rw [this]; simp [h]
theorem any_fnd {fs : Fnd} {q : Tx} : ((fndV fs).any fun p => keyEq p.1 (.str q)) = decide (q ∈ keysF fs) := by
  unfold fndV
  induction fs with
  | nil => simp
  | cons a r ih =>
    obtain ⟨p, o⟩ := a
    rw [List.map_cons, List.any_cons, ih, show keyEq (MV.str p) (MV.str q) = (p == q) from rfl]
    by_cases e : p = q
    · subst e; simp
    · have : (p == q) = false := by simp [e]
      rw [this]
      simp [Ne.symm e]
theorem put_fnd {fs : Fnd} {q : Tx} {o : Option (Tx × List Tx)} (h : q ∉ keysF fs) : kPut (.str q) (lnkV o) (fndV fs) = fndV (fs ++ [(q, o)]) := by
  unfold kPut
  rw [any_fnd]
  simp only [h, decide_false, Bool.false_eq_true, if_false]
  simp [fndV]
def d_met : IDef := ⟨2, 6, [
    .par [2, 3] (.cons (.dic (.cons (.var 1) (.con .non) .nil)) (.cons (.lst (.cons (.var 1) .nil)) .nil)),
    .whl (.cmp .ne (.var 3) (.lst .nil)) [.asg (.name 4) (.bmt (.var 3) .pop (.cons (.con (.int 0)) .nil)), .for_ (.name 5) (.ev (.sub (.var 0) (.var 4))) [.iff (.cmp .nin (.sub (.var 5) (.neg (.con (.int 1)))) (.var 2)) [.setsub (.var 2) (.sub (.var 5) (.neg (.con (.int 1)))) (.tup (.cons (.var 4) (.cons (.var 5) .nil))), .expr (.bmt (.var 3) .append (.cons (.sub (.var 5) (.neg (.con (.int 1)))) .nil))] []]],
    .ret (.var 2)]⟩
theorem strs_pd {st : Sto} : ∀ ws : List Tx, (ws.map MV.str).mapM (toPD 29 st) = some (ws.map PD.str)
  | [] => rfl
  | w :: ws => by
    rw [List.map_cons, List.mapM_cons, strs_pd ws]
    rfl
theorem strs_fine : ∀ ws : List Tx, (∀ w ∈ ws, okTx w) → PD.fineAll (ws.map PD.str) = true
  | [], _ => rfl
  | w :: ws, h => by
    show (PD.fine (.str w) && PD.fineAll (ws.map PD.str)) = true
    rw [strs_fine ws fun x hx => h x (List.mem_cons_of_mem _ hx), Bool.and_true]
    show w.all _ = true
    rw [List.all_eq_true]
    exact fun c hc => decide_eq_true (h w List.mem_cons_self c hc)
theorem ne_nil {st : Sto} {p q : Nat} {ws : List Tx} {Q : Bool → Sto → Prop} (hp : st[p]? = some (.lst (ws.map .str))) (hq : st[q]? = some (.lst [])) (ok : ∀ w ∈ ws, okTx w) (h : Q (!ws.isEmpty) st) : opCmp .ne (.ref p) (.ref q) st Q := by
  refine .inl ⟨.lst (ws.map .str), .lst [], ?_, ?_, .inr ⟨strs_fine ws ok, rfl⟩, ?_⟩
  · simp only [toPD, hp, strs_pd]; rfl
  · simp only [toPD, hq]; rfl
  · cases ws with
    | nil => exact h
    | cons w ws => exact h
theorem last_step {s : List Tx} (h : s ≠ []) : (ixOf (s.map MV.str).length (-1)).bind ((s.map MV.str)[·]?) = some (.str (tgt s)) := by
  obtain ⟨r, x, rfl⟩ := List.eq_nil_or_concat s |>.resolve_left h
  have e : tgt (r.concat x) = x := by simp [tgt]
  rw [e, List.concat_eq_append, List.map_append]
  exact at_last
/-- the state of met at the head of its loop -/
structure MetI (D : BoxD) (bg : Tx) (done ws : List Tx) (fs : Fnd) : Prop where
  ky : keysF fs = done ++ ws
  hd : ∃ r, fs = (bg, none) :: r
  lk : Links D fs
  nd : (keysF fs).Nodup
  sub : ∀ p ∈ keysF fs, p ∈ D.places
theorem met_ok {P : Prog} (B : HasBox P) (hm : P.df "met" = some d_met) {k : Nat} (hk : 2 ≤ k) {st : Sto} {b ds dw : Nat} {D : BoxD} {Q : Post} {X : Xp} (h : BoxAt st b ds dw D) (wf : D.WF) {bg : Tx} (hb : bg ∈ D.places)
    (q : ∀ fs f st', MetOk D bg fs → Keep [] st st' → st'[f]? = some (.dic false (fndV fs)) → st.length ≤ f → Q (.ref f) st') : sem P k "met" [.ref b, .str bg] st Q X := by
  refine sem_go (by omega) hm rfl ?_
  show wpSs P _ [_, _, _] _ [some (.ref b), some (.str bg), none, none, none, none] st
  decreasing_trivial_pre_omega
  refine ⟨rfl, by simp, ?_⟩
  decreasing_trivial_pre_omega
  refine ⟨by simp [big], ?_⟩
  decreasing_trivial_pre_omega
  refine ⟨rfl, ?_⟩
  decreasing_trivial_pre_omega
  refine while_go (m := D.steps.length) (fun m σ st' => ∃ done ws fs x4 x5, σ = [some (.ref b), some (.str bg), some (.ref st.length), some (.ref (st.length + 1)), x4, x5] ∧ Keep [] st st' ∧ st'[st.length]? = some (.dic false (fndV fs)) ∧
    st'[st.length + 1]? = some (.lst (ws.map .str)) ∧ MetI D bg done ws fs ∧ (∀ p ∈ done, ∀ s ∈ D.at_ p, tgt s ∈ keysF fs) ∧ m + done.length = D.steps.length) ?_ ?_
  · refine ⟨[], [bg], [(bg, none)], none, none, by simp, ?_, by simp [fndV, lnkV, kPut], by simp, ⟨rfl, ⟨[], rfl⟩, ?_, by simp, by simpa using hb⟩, by simp, by simp⟩
    · exact (Keep.app [] st _).trans (Keep.app [] _ _)
    · intro l1 q' o l2 e
      cases l1 with
      | nil => simp at e; exact .inl ⟨e.1.2.symm, rfl⟩
      | cons a l => simp at e
  · rintro m σ st1 kk ⟨done, ws, fs, x4, x5, rfl, ke, hf, hw, I, cl, hm⟩ hkk
    have hle : ∀ gs : Fnd, (keysF gs).Nodup → (∀ p ∈ keysF gs, p ∈ D.places) → gs.length ≤ D.steps.length := fun gs n1 n2 => by
      have := len_le_of_sub n1 n2
      simpa [BoxD.places] using this
    have okw : ∀ w ∈ ws, okTx w := fun w hw => wf.ok w (I.sub w (by rw [I.ky]; exact List.mem_append_right _ hw))
    decreasing_trivial_pre_omega
    refine ⟨by simp [big], ne_nil (get_app hw) get_new okw ?_⟩
    decreasing_trivial_pre_omega
    cases ws with
    | nil =>
      refine if_no rfl ?_
      decreasing_trivial_pre_omega
      refine q fs _ _ ⟨I.hd, I.lk, I.nd, I.sub, fun p hp s hs => ?_⟩ (ke.trans (Keep.app [] _ _)) (get_app hf) (Nat.le_refl _)
      rw [I.ky, List.append_nil] at hp
      exact cl p hp s hs
    | cons p ws =>
      refine if_yes rfl ?_
      have hpk : p ∈ keysF fs := by rw [I.ky]; simp
      have hpp := I.sub p hpk
      have hfl := hle fs I.nd I.sub
      have hwl : (p :: ws).length ≤ fs.length := by
        have := congrArg List.length I.ky
        simp at this
        simp
        omega
      have few := wf.few
      decreasing_trivial_pre_omega
      refine ⟨bt_lst (get_app hw) rfl, ?_⟩
      decreasing_trivial_pre_omega
      refine m_pop (k := 0) (v := .str p) (get_app hw) (by simp [big] at hwl ⊢; omega) (ix_nat (i := 0) (by simp)) rfl ?_
      decreasing_trivial_pre_omega
      generalize hS2 : (st1 ++ [MO.lst []]).set (st.length + 1) (.lst (((p :: ws).map MV.str).eraseIdx 0)) = S2
      have ke2 : Keep [] st S2 := by rw [← hS2]; exact (ke.trans (Keep.app [] _ _)).new _ (by omega)
      have hf2 : S2[st.length]? = some (.dic false (fndV fs)) := by rw [← hS2]; exact get_other (by omega) (get_app hf)
      have hw2 : S2[st.length + 1]? = some (.lst (ws.map .str)) := by rw [← hS2]; exact get_set (get_app hw)
      have h2 := h.keep ke2 (by simp) (by simp) (by simp)
      refine g_own h2.ob B.mgi (getitem_ok B h2 (by omega) (D.look hpp) ?_)
      decreasing_trivial_pre_omega
      refine loop_go (fun pre σ' st' => ∃ ws fs x5, σ' = [some (.ref b), some (.str bg), some (.ref st.length), some (.ref (st.length + 1)), some (.str p), x5] ∧ Keep [] st st' ∧ st'[st.length]? = some (.dic false (fndV fs)) ∧
        st'[st.length + 1]? = some (.lst (ws.map .str)) ∧ MetI D bg (done ++ [p]) ws fs ∧ (∀ p ∈ done, ∀ s ∈ D.at_ p, tgt s ∈ keysF fs) ∧ ∀ i s, i < pre.length → (D.at_ p)[i]? = some s → tgt s ∈ keysF fs) ?_ (fun _ _ _ _ => True.intro) ?_ ?_
      · exact ⟨ws, fs, x5, rfl, ke2, hf2, hw2, ⟨by rw [I.ky]; simp, I.hd, I.lk, I.nd, I.sub⟩, cl, fun i s hi _ => absurd hi (Nat.not_lt_zero _)⟩
      · rintro pre x r σ3 st3 kk3 exs ⟨ws3, fs3, x53, rfl, ke3, hf3, hw3, I3, cl3, pc3⟩ hk3
        have exs : (D.at_ p).map stepV = pre ++ x :: r := exs
        have hxs : ((D.at_ p).map stepV)[pre.length]? = some x := by rw [exs]; simp
        rw [List.getElem?_map] at hxs
        cases hs : (D.at_ p)[pre.length]? with
        | none => rw [hs] at hxs; cases hxs
        | some s =>
          rw [hs] at hxs
          have hxs : some (stepV s) = some x := hxs
          cases hxs
          have hsm : s ∈ D.at_ p := List.mem_of_getElem? hs
          obtain ⟨_, sne, stp⟩ := wf.fit p s hsm
          have fin : ∀ (ws4 : List Tx) (fs4 : Fnd) (st4 : Sto), Keep [] st st4 → st4[st.length]? = some (.dic false (fndV fs4)) → st4[st.length + 1]? = some (.lst (ws4.map .str)) → MetI D bg (done ++ [p]) ws4 fs4 →
              (∀ y ∈ keysF fs3, y ∈ keysF fs4) → tgt s ∈ keysF fs4 → kk3 [some (.ref b), some (.str bg), some (.ref st.length), some (.ref (st.length + 1)), some (.str p), some (stepV s)] st4 := by
            intro ws4 fs4 st4 k4 f4 w4 I4 mono ht
            refine hk3 _ _ ⟨ws4, fs4, some (stepV s), rfl, k4, f4, w4, I4, fun p hp s hs => mono _ (cl3 p hp s hs), fun i s' hi hs' => ?_⟩
            simp at hi
            rcases Nat.lt_or_ge i pre.length with z | z
            · exact mono _ (pc3 i s' z hs')
            · have : i = pre.length := by omega
              subst this
              rw [hs] at hs'; cases hs'
              exact ht
          decreasing_trivial_pre_omega
          refine g_tup (last_step sne) ?_
          decreasing_trivial_pre_omega
          refine ni_dic hf3 rfl ?_
          rw [fnd_in]
          by_cases ht : tgt s ∈ keysF fs3
          · rw [decide_eq_true ht]
            decreasing_trivial_pre_omega
            exact fin ws3 fs3 _ ke3 hf3 hw3 I3 (fun _ z => z) ht
          · rw [decide_eq_false ht]
            decreasing_trivial_pre_omega
            refine ⟨by simp [big], ?_⟩
            decreasing_trivial_pre_omega
            refine g_tup (last_step sne) ?_
            have f3l := hle fs3 I3.nd I3.sub
            refine s_dic hf3 rfl (by simp [fndV, big]; omega) ?_
            rw [show MV.tup [.str p, .tup (s.map .str)] = lnkV (some (p, s)) from rfl, put_fnd ht]
            decreasing_trivial_pre_omega
            have hw4 : ∀ o, (st3.set st.length o)[st.length + 1]? = some (.lst (ws3.map .str)) := fun o => get_other (by omega) hw3
            refine ⟨bt_lst (hw4 _) rfl, ?_⟩
            decreasing_trivial_pre_omega
            refine g_tup (last_step sne) ?_
            decreasing_trivial_pre_omega
            have w3l : ws3.length ≤ fs3.length := by
              have := congrArg List.length I3.ky
              simp at this
              omega
            refine m_app (hw4 _) (by simp [big]; omega) ?_
            decreasing_trivial_pre_omega
            have pk3 : p ∈ keysF fs3 := by rw [I3.ky]; simp
            refine fin (ws3 ++ [tgt s]) (fs3 ++ [(tgt s, some (p, s))]) _ ((ke3.new _ (Nat.le_refl _)).new _ (by omega)) (get_other (by omega) (get_set hf3)) ?_ ⟨?_, ?_, I3.lk.snoc pk3 hsm rfl, ?_, ?_⟩ (fun y hy => by simp at hy ⊢; exact .inl hy) (by simp)
            · rw [get_set (hw4 _)]
              simp
            · rw [keysF_snoc, I3.ky]; simp
            · obtain ⟨r0, hr0⟩ := I3.hd
              exact ⟨r0 ++ [(tgt s, some (p, s))], by rw [hr0]; rfl⟩
            · rw [keysF_snoc]
              exact List.nodup_append.mpr ⟨I3.nd, by simp, fun y hy z hz => by simp at hz; subst hz; exact fun e => ht (e ▸ hy)⟩
            · intro y hy
              rw [keysF_snoc, List.mem_append] at hy
              rcases hy with hy | hy
              · exact I3.sub y hy
              · simp at hy; subst hy; exact stp
      · rintro σ4 st4 ⟨ws4, fs4, x54, rfl, ke4, hf4, hw4, I4, cl4, pc4⟩
        have dl : (done ++ [p]).length ≤ D.steps.length := by
          have := congrArg List.length I4.ky
          have := hle fs4 I4.nd I4.sub
          simp at *
          omega
        refine hkk (m - 1) _ _ (by simp at dl; omega) ⟨done ++ [p], ws4, fs4, some (.str p), x54, rfl, ke4, hf4, hw4, I4, fun p' hp' s hs => ?_, by simp at dl ⊢; omega⟩
        rcases List.mem_append.mp hp' with z | z
        · exact cl4 p' z s hs
        · simp at z
          subst z
          obtain ⟨i, hi⟩ := List.getElem?_of_mem hs
          exact pc4 i s (by simpa using (List.getElem?_eq_some_iff.mp hi).1) hi
end Mi
-- B6
namespace Mi
local macro_rules | `(tactic| decreasing_trivial_pre_omega) => `(tactic| repeat (first | (with_reducible refine w_seq ?_) | (with_reducible refine w_set ?_) | (with_reducible refine w_asg ?_) | (with_reducible refine w_par ?_) | (with_reducible refine w_setsub ?_) | (with_reducible refine w_iff ?_) | (with_reducible refine w_ret ?_) | (with_reducible refine w_expr ?_) | (with_reducible refine w_end ?_) | (with_reducible refine w_con ?_) | (with_reducible refine w_bin ?_) | (with_reducible refine w_neg ?_) | (with_reducible refine w_cmp ?_) | (with_reducible refine w_chn ?_) | (with_reducible refine w_and ?_) | (with_reducible refine w_or ?_) | (with_reducible refine w_not ?_) | (with_reducible refine w_ite ?_) | (with_reducible refine w_sub ?_) | (with_reducible refine w_sli ?_) | (with_reducible refine w_rev ?_) | (with_reducible refine w_fld ?_) | (with_reducible refine w_call ?_) | (with_reducible refine w_bmt ?_) | (with_reducible refine w_blt ?_) | (with_reducible refine w_isi ?_) | (with_reducible refine w_lst ?_) | (with_reducible refine w_tup ?_) | (with_reducible refine w_nil ?_) | (with_reducible refine w_arg ?_) | (with_reducible refine w_star ?_) | (with_reducible refine w_tr ?_) | (with_reducible refine o_add ?_) | (with_reducible refine o_sub ?_) | (with_reducible refine o_mod (by omega) ?_) | (with_reducible refine o_div (by omega) (by omega) ?_) | (with_reducible refine b_int ?_) | (with_reducible refine b_abs ?_) | (with_reducible refine b_max ?_) | (with_reducible refine b_min ?_) | (with_reducible refine c_lt ?_) | (with_reducible refine c_le ?_) | (with_reducible refine c_gt ?_) | (with_reducible refine c_ge ?_) | (with_reducible refine e_int ?_) | (with_reducible refine e_str ?_) | (with_reducible refine n_int ?_) | (with_reducible refine n_str ?_) | (with_reducible refine l_tup ?_) | (with_reducible refine l_lsv ?_) | (with_reducible refine w_mth ?_) | (with_reducible refine is_str ?_) | (with_reducible refine u_tup ?_) | (with_reducible refine l_new ?_) | (with_reducible refine isN_non ?_) | (with_reducible refine notN_non ?_) | (with_reducible refine isN_tup ?_) | (with_reducible refine notN_tup ?_) | (with_reducible refine w_for ?_) | (with_reducible refine w_whl ?_) | (with_reducible refine w_ev ?_) | (with_reducible refine w_keys ?_) | (with_reducible refine w_rng ?_) | (with_reducible refine it_tup ?_) | (with_reducible refine w_lc ?_) | (with_reducible refine w_dic ?_) | (with_reducible refine w_pc ?_) | (with_reducible refine w_pn ?_) | (with_reducible refine w_tg ?_) | (with_reducible refine w_ng ?_) | (with_reducible refine w_cn ?_) | (with_reducible refine w_cs ?_) | (with_reducible refine w_os ?_) | (with_reducible refine w_ov ?_) | ((with_reducible apply w_var); exact rfl) | ((with_reducible refine if_yes ?_ ?_); exact rfl) | ((with_reducible refine if_no ?_ ?_); exact rfl)))
local macro_rules | `(tactic| array_get_dec) => `(tactic| repeat (first | (with_reducible refine w_seq ?_) | (with_reducible refine w_set ?_) | (with_reducible refine w_asg ?_) | (with_reducible refine w_par ?_) | (with_reducible refine w_setsub ?_) | (with_reducible refine w_iff ?_) | (with_reducible refine w_ret ?_) | (with_reducible refine w_expr ?_) | (with_reducible refine w_end ?_) | (with_reducible refine w_con ?_) | (with_reducible refine w_bin ?_) | (with_reducible refine w_neg ?_) | (with_reducible refine w_cmp ?_) | (with_reducible refine w_chn ?_) | (with_reducible refine w_and ?_) | (with_reducible refine w_or ?_) | (with_reducible refine w_not ?_) | (with_reducible refine w_ite ?_) | (with_reducible refine w_sub ?_) | (with_reducible refine w_sli ?_) | (with_reducible refine w_rev ?_) | (with_reducible refine w_fld ?_) | (with_reducible refine w_call ?_) | (with_reducible refine w_bmt ?_) | (with_reducible refine w_blt ?_) | (with_reducible refine w_isi ?_) | (with_reducible refine w_lst ?_) | (with_reducible refine w_tup ?_) | (with_reducible refine w_nil ?_) | (with_reducible refine w_arg ?_) | (with_reducible refine w_star ?_) | (with_reducible refine w_tr ?_) | (with_reducible refine o_add ?_) | (with_reducible refine o_sub ?_) | (with_reducible refine o_mod (by omega) ?_) | (with_reducible refine o_div (by omega) (by omega) ?_) | (with_reducible refine b_int ?_) | (with_reducible refine b_abs ?_) | (with_reducible refine b_max ?_) | (with_reducible refine b_min ?_) | (with_reducible refine c_lt ?_) | (with_reducible refine c_le ?_) | (with_reducible refine c_gt ?_) | (with_reducible refine c_ge ?_) | (with_reducible refine e_int ?_) | (with_reducible refine e_str ?_) | (with_reducible refine n_int ?_) | (with_reducible refine n_str ?_) | (with_reducible refine l_tup ?_) | (with_reducible refine l_lsv ?_) | (with_reducible refine w_mth ?_) | (with_reducible refine is_str ?_) | (with_reducible refine u_tup ?_) | (with_reducible refine l_new ?_) | (with_reducible refine isN_non ?_) | (with_reducible refine notN_non ?_) | (with_reducible refine isN_tup ?_) | (with_reducible refine notN_tup ?_) | (with_reducible refine w_for ?_) | (with_reducible refine w_whl ?_) | (with_reducible refine w_ev ?_) | (with_reducible refine w_keys ?_) | (with_reducible refine w_rng ?_) | (with_reducible refine it_tup ?_) | (with_reducible refine w_dic ?_) | (with_reducible refine w_pc ?_) | (with_reducible refine w_pn ?_) | (with_reducible refine w_tg ?_) | (with_reducible refine w_ng ?_) | (with_reducible refine w_cn ?_) | (with_reducible refine w_cs ?_) | (with_reducible refine w_os ?_) | (with_reducible refine w_ov ?_) | ((with_reducible apply w_var); exact rfl) | ((with_reducible refine if_yes ?_ ?_); exact rfl) | ((with_reducible refine if_no ?_ ?_); exact rfl)))
/-! ### walks -/
abbrev rowV (r : Tx × List Tx) : MV := .tup [.str r.1, stepV r.2]
abbrev rowsV (ws : List (Tx × List Tx)) : MV := .tup (ws.map rowV)
inductive Walk (D : BoxD) : Tx → List (Tx × List Tx) → Tx → Prop where
  | nil {a : Tx} : Walk D a [] a
  | cons {a b : Tx} {s : List Tx} {r : List (Tx × List Tx)} : s ∈ D.at_ a → Walk D (tgt s) r b → Walk D a ((a, s) :: r) b
theorem Walk.app {D : BoxD} {a b c : Tx} {r t : List (Tx × List Tx)} (h : Walk D a r b) (h2 : Walk D b t c) : Walk D a (r ++ t) c := by
  induction h with
  | nil => exact h2
  | cons hs _ ih => exact .cons hs (ih h2)
theorem look_split {fs l1 l2 : Fnd} {g : Tx} {o : Option (Tx × List Tx)} (e : fs = l1 ++ (g, o) :: l2) (nd : (keysF fs).Nodup) : kLook (.str g) (fndV fs) = some (lnkV o) := by
  unfold fndV
  rw [kLook_str lnkV g fs]
  have hn : g ∉ keysF l1 := by
    rw [e] at nd
    simp only [keysF, List.map_append, List.map_cons] at nd
    have := List.nodup_append.mp nd
    exact fun z => this.2.2 g z g List.mem_cons_self rfl
  have : fs.lookup g = some o := by
    rw [e]
    clear e nd
    induction l1 with
    | nil => simp
    | cons a r ih =>
      obtain ⟨p, x⟩ := a
      have hp : g ≠ p := fun z => hn (by simp [z])
      have e2 : (g == p) = false := by simp [hp]
      rw [List.cons_append, List.lookup_cons, e2]
      exact ih fun z => hn (by simp at z ⊢; exact .inr z)
  rw [this]
  rfl
theorem mem_split {fs : Fnd} {g : Tx} (h : g ∈ keysF fs) : ∃ l1 o l2, fs = l1 ++ (g, o) :: l2 := by
  obtain ⟨e, he, rfl⟩ := List.mem_map.mp h
  obtain ⟨l1, l2, rfl⟩ := List.append_of_mem he
  exact ⟨l1, e.2, l2, rfl⟩
def d_walk_to : IDef := ⟨2, 3, [
    .asg (.name 2) (.lst .nil),
    .whl (.cmp .notN (.sub (.var 0) (.var 1)) (.con .non)) [.expr (.bmt (.var 2) .append (.cons (.sub (.var 0) (.var 1)) .nil)), .asg (.name 1) (.sub (.sub (.var 0) (.var 1)) (.con (.int 0)))],
    .ret (.blt .tuple (.cons (.rev (.var 2)) .nil))]⟩
theorem walk_to_ok {P : Prog} (hm : P.df "walk_to" = some d_walk_to) {k : Nat} (hk : 1 ≤ k) {st : Sto} {D : BoxD} {Q : Post} {X : Xp} {f : Nat} {lk : Bool} {fs : Fnd} {bg goal : Tx} (hf : st[f]? = some (.dic lk (fndV fs))) (M : MetOk D bg fs) (hg : goal ∈ keysF fs)
    (hl : fs.length ≤ 1000) (q : ∀ ws st', Walk D bg ws goal → ws.length < fs.length → Keep [] st st' → Q (rowsV ws) st') : sem P k "walk_to" [.ref f, .str goal] st Q X := by
  refine sem_go (by omega) hm rfl ?_
  show wpSs P _ [_, _, _] _ [some (.ref f), some (.str goal), none] st
  decreasing_trivial_pre_omega
  refine ⟨by simp [big], ?_⟩
  decreasing_trivial_pre_omega
  obtain ⟨l0, o0, l20, e0⟩ := mem_split hg
  refine while_go (m := l0.length) (fun m σ st' => ∃ cur ws l1 o l2, σ = [some (.ref f), some (.str cur), some (.ref st.length)] ∧ Keep [] st st' ∧ st'[st.length]? = some (.lst (ws.reverse.map rowV)) ∧ fs = l1 ++ (cur, o) :: l2 ∧ l1.length = m ∧ Walk D cur ws goal ∧ ws.length + m < fs.length) ?_ ?_
  · exact ⟨goal, [], l0, o0, l20, by simp, Keep.app [] st _, by simp, e0, rfl, .nil, by rw [e0]; simp⟩
  · rintro m σ st1 kk ⟨cur, ws, l1, o, l2, rfl, ke, hw, e1, e2, wk, wl⟩ hkk
    have hlook := look_split e1 M.nd
    have hf1 := ke.at_ f _ (by simp) hf
    decreasing_trivial_pre_omega
    refine g_dic hf1 rfl hlook ?_
    cases o with
    | none =>
      decreasing_trivial_pre_omega
      refine notN_non ?_
      decreasing_trivial_pre_omega
      refine ⟨st.length, ws.reverse.map rowV, rfl, hw, ?_⟩
      decreasing_trivial_pre_omega
      refine u_lst get_new ?_
      have hb : cur = bg := by
        rcases M.lk l1 cur none l2 e1 with ⟨_, h1⟩ | ⟨p, s, h, _⟩
        · subst h1
          obtain ⟨r, hr⟩ := M.hd
          rw [e1] at hr
          simp at hr
          exact hr.1
        · cases h
      subst hb
      have er : (ws.reverse.map rowV).reverse = ws.map rowV := by rw [← List.map_reverse, List.reverse_reverse]
      rw [er]
      exact q ws _ wk (by omega) (ke.trans (Keep.app [] _ _))
    | some ps =>
      obtain ⟨p, s⟩ := ps
      rcases M.lk l1 cur (some (p, s)) l2 e1 with ⟨h, _⟩ | ⟨p', s', h, hp, hs, ht⟩
      · cases h
      · cases h
        obtain ⟨l3, o3, l4, e3⟩ := mem_split hp
        decreasing_trivial_pre_omega
        refine notN_tup ?_
        decreasing_trivial_pre_omega
        refine ⟨bt_lst hw rfl, ?_⟩
        decreasing_trivial_pre_omega
        refine g_dic hf1 rfl hlook ?_
        decreasing_trivial_pre_omega
        have hf2 : ∀ u, (st1.set st.length u)[f]? = some (.dic lk (fndV fs)) := fun u => get_other (fun z => by have := (List.getElem?_eq_some_iff.mp hf).1; omega) hf1
        refine m_app hw (by simp [big]; omega) ?_
        decreasing_trivial_pre_omega
        refine g_dic (hf2 _) rfl hlook ?_
        decreasing_trivial_pre_omega
        refine g_tup (by rfl) ?_
        decreasing_trivial_pre_omega
        refine hkk l3.length _ _ (by rw [← e2, e3]; simp) ⟨p, (p, s) :: ws, l3, o3, l4 ++ (cur, some (p, s)) :: l2, rfl, ke.new _ (Nat.le_refl _), ?_, ?_, rfl, .cons hs (by rw [ht]; exact wk), ?_⟩
        · rw [get_set hw]
          simp [lnkV]
        · rw [e1, e3]; simp
        · have : l3.length < l1.length := by rw [e3]; simp
          simp
          omega
/-- the load of a walk -/
def BoxD.load (D : BoxD) : List (Tx × List Tx) → Int
  | [] => 0
  | (_, s) :: r => D.gain s + D.load r
theorem load_app (D : BoxD) : ∀ a b, D.load (a ++ b) = D.load a + D.load b
  | [], b => by simp [BoxD.load]
  | (p, s) :: a, b => by simp only [List.cons_append, BoxD.load, load_app D a b]; omega
def d_load_of : IDef := ⟨2, 4, [
    .ret (.blt .sum (.cons (.lc (.mth (.var 0) "gain" (.cons (.var 3) .nil)) (.tup [2, 3]) (.ev (.var 1)) .non [2, 3]) .nil))]⟩
theorem load_sum (D : BoxD) : ∀ ws : List (Tx × List Tx), (ws.map fun r => D.gain r.2).sum = D.load ws
  | [] => rfl
  | (p, s) :: r => by
    rw [List.map_cons, List.sum_cons, load_sum D r]
    rfl
theorem load_of_ok {P : Prog} (B : HasBox P) (hm : P.df "load_of" = some d_load_of) {k : Nat} (hk : 2 ≤ k) {st : Sto} {b ds dw : Nat} {D : BoxD} {Q : Post} {X : Xp} (h : BoxAt st b ds dw D) {ws : List (Tx × List Tx)} (hw : ∀ r ∈ ws, D.fits r.2) (hl : ws.length ≤ 1000)
    (q : ∀ st', Keep [] st st' → Q (.int (D.load ws)) st') : sem P k "load_of" [.ref b, rowsV ws] st Q X := by
  refine sem_go (by omega) hm rfl ?_
  show wpSs P _ [_] _ [some (.ref b), some (rowsV ws), none, none] st
  decreasing_trivial_pre_omega
  refine ⟨by simp [big]; omega, ?_⟩
  refine loop_go (fun pre acc st' => acc = (ws.take pre.length).map (fun r => .int (D.gain r.2)) ∧ st' = st) ⟨by simp, rfl⟩ (fun _ _ _ _ => True.intro) ?_ ?_
  · rintro pre x r acc st1 kk exs ⟨rfl, rfl⟩ hk1
    have exs : ws.map rowV = pre ++ x :: r := exs
    have hxs : (ws.map rowV)[pre.length]? = some x := by rw [exs]; simp
    rw [List.getElem?_map] at hxs
    cases hs : ws[pre.length]? with
    | none => rw [hs] at hxs; cases hxs
    | some y =>
      rw [hs] at hxs
      have hxs : some (rowV y) = some x := hxs
      cases hxs
      refine w_tt rfl ?_
      decreasing_trivial_pre_omega
      refine w_gm h.ob rfl B.mgn ?_
      decreasing_trivial_pre_omega
      refine gain_ok B h (by omega) (hw y (List.mem_of_getElem? hs)) ?_
      decreasing_trivial_pre_omega
      refine hk1 _ _ ⟨?_, rfl⟩
      rw [List.length_append, List.length_singleton, List.take_add_one, hs]
      simp
  · rintro acc st1 ⟨rfl, rfl⟩
    decreasing_trivial_pre_omega
    have e : ((ws.take (ws.map rowV).length).map fun r => MV.int (D.gain r.2)) = ((ws.map fun r => D.gain r.2).map MV.int) := by
      rw [List.length_map, List.take_length, List.map_map]
      rfl
    rw [e]
    refine b_sum get_new ?_
    rw [load_sum]
    exact q _ (Keep.app [] _ _)
end Mi
-- B7
namespace Mi
local macro_rules | `(tactic| decreasing_trivial_pre_omega) => `(tactic| repeat (first | (with_reducible refine w_seq ?_) | (with_reducible refine w_set ?_) | (with_reducible refine w_asg ?_) | (with_reducible refine w_par ?_) | (with_reducible refine w_setsub ?_) | (with_reducible refine w_iff ?_) | (with_reducible refine w_ret ?_) | (with_reducible refine w_expr ?_) | (with_reducible refine w_end ?_) | (with_reducible refine w_con ?_) | (with_reducible refine w_bin ?_) | (with_reducible refine w_neg ?_) | (with_reducible refine w_cmp ?_) | (with_reducible refine w_chn ?_) | (with_reducible refine w_and ?_) | (with_reducible refine w_or ?_) | (with_reducible refine w_not ?_) | (with_reducible refine w_ite ?_) | (with_reducible refine w_sub ?_) | (with_reducible refine w_sli ?_) | (with_reducible refine w_rev ?_) | (with_reducible refine w_fld ?_) | (with_reducible refine w_call ?_) | (with_reducible refine w_bmt ?_) | (with_reducible refine w_blt ?_) | (with_reducible refine w_isi ?_) | (with_reducible refine w_lst ?_) | (with_reducible refine w_tup ?_) | (with_reducible refine w_nil ?_) | (with_reducible refine w_arg ?_) | (with_reducible refine w_star ?_) | (with_reducible refine w_tr ?_) | (with_reducible refine o_add ?_) | (with_reducible refine o_sub ?_) | (with_reducible refine o_mod (by omega) ?_) | (with_reducible refine o_div (by omega) (by omega) ?_) | (with_reducible refine b_int ?_) | (with_reducible refine b_abs ?_) | (with_reducible refine b_max ?_) | (with_reducible refine b_min ?_) | (with_reducible refine c_lt ?_) | (with_reducible refine c_le ?_) | (with_reducible refine c_gt ?_) | (with_reducible refine c_ge ?_) | (with_reducible refine e_int ?_) | (with_reducible refine e_str ?_) | (with_reducible refine n_int ?_) | (with_reducible refine n_str ?_) | (with_reducible refine l_tup ?_) | (with_reducible refine l_lsv ?_) | (with_reducible refine w_mth ?_) | (with_reducible refine is_str ?_) | (with_reducible refine u_tup ?_) | (with_reducible refine l_new ?_) | (with_reducible refine isN_non ?_) | (with_reducible refine notN_non ?_) | (with_reducible refine isN_tup ?_) | (with_reducible refine notN_tup ?_) | (with_reducible refine w_for ?_) | (with_reducible refine w_whl ?_) | (with_reducible refine w_ev ?_) | (with_reducible refine w_keys ?_) | (with_reducible refine w_rng ?_) | (with_reducible refine it_tup ?_) | (with_reducible refine w_lc ?_) | (with_reducible refine w_dic ?_) | (with_reducible refine w_pc ?_) | (with_reducible refine w_pn ?_) | (with_reducible refine w_tg ?_) | (with_reducible refine w_ng ?_) | (with_reducible refine w_cn ?_) | (with_reducible refine w_cs ?_) | (with_reducible refine w_os ?_) | (with_reducible refine w_ov ?_) | ((with_reducible apply w_var); exact rfl) | ((with_reducible refine if_yes ?_ ?_); exact rfl) | ((with_reducible refine if_no ?_ ?_); exact rfl)))
local macro_rules | `(tactic| array_get_dec) => `(tactic| repeat (first | (with_reducible refine w_seq ?_) | (with_reducible refine w_set ?_) | (with_reducible refine w_asg ?_) | (with_reducible refine w_par ?_) | (with_reducible refine w_setsub ?_) | (with_reducible refine w_iff ?_) | (with_reducible refine w_ret ?_) | (with_reducible refine w_expr ?_) | (with_reducible refine w_end ?_) | (with_reducible refine w_con ?_) | (with_reducible refine w_bin ?_) | (with_reducible refine w_neg ?_) | (with_reducible refine w_cmp ?_) | (with_reducible refine w_chn ?_) | (with_reducible refine w_and ?_) | (with_reducible refine w_or ?_) | (with_reducible refine w_not ?_) | (with_reducible refine w_ite ?_) | (with_reducible refine w_sub ?_) | (with_reducible refine w_sli ?_) | (with_reducible refine w_rev ?_) | (with_reducible refine w_fld ?_) | (with_reducible refine w_call ?_) | (with_reducible refine w_bmt ?_) | (with_reducible refine w_blt ?_) | (with_reducible refine w_isi ?_) | (with_reducible refine w_lst ?_) | (with_reducible refine w_tup ?_) | (with_reducible refine w_nil ?_) | (with_reducible refine w_arg ?_) | (with_reducible refine w_star ?_) | (with_reducible refine w_tr ?_) | (with_reducible refine o_add ?_) | (with_reducible refine o_sub ?_) | (with_reducible refine o_mod (by omega) ?_) | (with_reducible refine o_div (by omega) (by omega) ?_) | (with_reducible refine b_int ?_) | (with_reducible refine b_abs ?_) | (with_reducible refine b_max ?_) | (with_reducible refine b_min ?_) | (with_reducible refine c_lt ?_) | (with_reducible refine c_le ?_) | (with_reducible refine c_gt ?_) | (with_reducible refine c_ge ?_) | (with_reducible refine e_int ?_) | (with_reducible refine e_str ?_) | (with_reducible refine n_int ?_) | (with_reducible refine n_str ?_) | (with_reducible refine l_tup ?_) | (with_reducible refine l_lsv ?_) | (with_reducible refine w_mth ?_) | (with_reducible refine is_str ?_) | (with_reducible refine u_tup ?_) | (with_reducible refine l_new ?_) | (with_reducible refine isN_non ?_) | (with_reducible refine notN_non ?_) | (with_reducible refine isN_tup ?_) | (with_reducible refine notN_tup ?_) | (with_reducible refine w_for ?_) | (with_reducible refine w_whl ?_) | (with_reducible refine w_ev ?_) | (with_reducible refine w_keys ?_) | (with_reducible refine w_rng ?_) | (with_reducible refine it_tup ?_) | (with_reducible refine w_dic ?_) | (with_reducible refine w_pc ?_) | (with_reducible refine w_pn ?_) | (with_reducible refine w_tg ?_) | (with_reducible refine w_ng ?_) | (with_reducible refine w_cn ?_) | (with_reducible refine w_cs ?_) | (with_reducible refine w_os ?_) | (with_reducible refine w_ov ?_) | ((with_reducible apply w_var); exact rfl) | ((with_reducible refine if_yes ?_ ?_); exact rfl) | ((with_reducible refine if_no ?_ ?_); exact rfl)))
def Reach (D : BoxD) (a b : Tx) : Prop := ∃ ws, Walk D a ws b
theorem Walk.snoc {D : BoxD} {a p : Tx} {r : List (Tx × List Tx)} {s : List Tx} (h : Walk D a r p) (hs : s ∈ D.at_ p) : Walk D a (r ++ [(p, s)]) (tgt s) := h.app (.cons hs .nil)
theorem MetOk.closed {D : BoxD} {a : Tx} {fs : Fnd} (M : MetOk D a fs) {p b : Tx} {ws : List (Tx × List Tx)} (h : Walk D p ws b) : p ∈ keysF fs → b ∈ keysF fs := by
  induction h with
  | nil => exact fun z => z
  | cons hs _ ih => exact fun z => ih (M.cl _ z _ hs)
theorem MetOk.head {D : BoxD} {a : Tx} {fs : Fnd} (M : MetOk D a fs) : a ∈ keysF fs := by
  obtain ⟨r, hr⟩ := M.hd
  rw [hr]; simp
theorem MetOk.of_reach {D : BoxD} {a b : Tx} {fs : Fnd} (M : MetOk D a fs) (h : Reach D a b) : b ∈ keysF fs := by
  obtain ⟨ws, hw⟩ := h
  exact M.closed hw M.head
theorem MetOk.reach_ {D : BoxD} {a : Tx} {fs : Fnd} (M : MetOk D a fs) : ∀ (n : Nat) (l1 : Fnd) (b : Tx) (o : Option (Tx × List Tx)) (l2 : Fnd), l1.length = n → fs = l1 ++ (b, o) :: l2 → Reach D a b := by
  intro n
  induction n using Nat.strongRecOn with
  | _ n ih =>
    intro l1 b o l2 hn e
    rcases M.lk l1 b o l2 e with ⟨_, h1⟩ | ⟨p, s, _, hp, hs, ht⟩
    · subst h1
      obtain ⟨r, hr⟩ := M.hd
      rw [e] at hr
      simp at hr
      rw [hr.1.1]
      exact ⟨[], .nil⟩
    · obtain ⟨l3, o3, l4, e3⟩ := mem_split hp
      obtain ⟨ws, hw⟩ := ih l3.length (by rw [← hn, e3]; simp) l3 p o3 (l4 ++ (b, o) :: l2) rfl (by rw [e, e3]; simp)
      exact ⟨_, ht ▸ hw.snoc hs⟩
theorem MetOk.reach {D : BoxD} {a b : Tx} {fs : Fnd} (M : MetOk D a fs) (h : b ∈ keysF fs) : Reach D a b := by
  obtain ⟨l1, o, l2, e⟩ := mem_split h
  exact M.reach_ _ l1 b o l2 rfl e
theorem MetOk.len {D : BoxD} (wf : D.WF) {a : Tx} {fs : Fnd} (M : MetOk D a fs) : fs.length ≤ 40 := by
  have := len_le_of_sub M.nd M.sub
  have f := wf.few
  simp [BoxD.places] at this
  omega
theorem Walk.fits {D : BoxD} (wf : D.WF) {a b : Tx} {ws : List (Tx × List Tx)} (h : Walk D a ws b) : ∀ r ∈ ws, D.fits r.2 := by
  induction h with
  | nil => simp
  | @cons a b s r hs _ ih =>
    intro x hx
    rcases List.mem_cons.mp hx with rfl | hx
    · exact (wf.fit _ _ hs).1
    · exact ih x hx
def d_ring_by : IDef := ⟨4, 8, [
    .asg (.tup [6, 7]) (.var 3),
    .asg (.name 4) (.call "walk_to" (.cons (.call "met" (.cons (.var 0) (.cons (.sub (.var 7) (.neg (.con (.int 1)))) .nil))) (.cons (.var 1) .nil))),
    .for_ (.name 5) (.ev (.tup (.cons (.tup (.star (.call "walk_to" (.cons (.var 2) (.cons (.var 6) .nil))) (.cons (.var 3) (.star (.var 4) .nil)))) (.cons (.tup (.star (.call "walk_to" (.cons (.var 2) (.cons (.sub (.var 7) (.neg (.con (.int 1)))) .nil))) (.star (.var 4) .nil))) .nil)))) [.iff (.cmp .ne (.call "load_of" (.cons (.var 0) (.cons (.var 5) .nil))) (.con (.int 0))) [.ret (.var 5)] []],
    .ret (.con .non)]⟩
/-- the program's defs about rings -/
structure HasRings (P : Prog) : Prop where
  bx : HasBox P
  met : P.df "met" = some d_met
  wt : P.df "walk_to" = some d_walk_to
  lo : P.df "load_of" = some d_load_of
  rb : P.df "ring_by" = some d_ring_by
section
variable {P : Prog} (R : HasRings P) {k : Nat} {st : Sto} {b ds dw : Nat} {D : BoxD} {Q : Post} {X : Xp} (h : BoxAt st b ds dw D) (wf : D.WF)
include R h wf
theorem ring_by_ok (hk : 3 ≤ k) {f : Nat} {lk : Bool} {fs : Fnd} {root p : Tx} {s : List Tx} (hf : st[f]? = some (.dic lk (fndV fs))) (M : MetOk D root fs) (hp : p ∈ keysF fs) (hs : s ∈ D.at_ p) (hr : Reach D (tgt s) root)
    (even : ∀ ws, Walk D root ws root → D.load ws = 0) (q : ∀ st', Keep [] st st' → Q .non st') : sem P k "ring_by" [.ref b, .str root, .ref f, .tup [.str p, stepV s]] st Q X := by
  refine sem_go (by omega) R.rb rfl ?_
  show wpSs P _ [_, _, _, _] _ [some (.ref b), some (.str root), some (.ref f), some (.tup [.str p, stepV s]), none, none, none, none] st
  obtain ⟨sf, sne, stp⟩ := wf.fit p s hs
  have rp : root ∈ D.places := M.sub _ M.head
  decreasing_trivial_pre_omega
  refine w_ts rfl ?_
  decreasing_trivial_pre_omega
  refine g_tup (last_step sne) ?_
  decreasing_trivial_pre_omega
  refine met_ok R.bx R.met (by omega) h wf stp fun gs g st1 M1 k1 hg hge => ?_
  decreasing_trivial_pre_omega
  refine walk_to_ok R.wt (by omega) hg M1 (M1.of_reach hr) (by have := M1.len wf; omega) fun back st2 wk2 wl2 k2 => ?_
  have b2 := M1.len wf
  decreasing_trivial_pre_omega
  have hf2 := k2.at_ f _ (by simp) (k1.at_ f _ (by simp) hf)
  refine walk_to_ok R.wt (by omega) hf2 M hp (by have := M.len wf; omega) fun w1 st3 wk3 wl3 k3 => ?_
  have b3 := M.len wf
  refine ⟨_, rfl, ?_⟩
  decreasing_trivial_pre_omega
  refine ⟨_, rfl, ?_⟩
  decreasing_trivial_pre_omega
  refine ⟨by simp [big]; omega, ?_⟩
  decreasing_trivial_pre_omega
  refine g_tup (last_step sne) ?_
  decreasing_trivial_pre_omega
  have hf3 := k3.at_ f _ (by simp) hf2
  refine walk_to_ok R.wt (by omega) hf3 M (M.cl p hp s hs) (by omega) fun w2 st4 wk4 wl4 k4 => ?_
  refine ⟨_, rfl, ?_⟩
  decreasing_trivial_pre_omega
  refine ⟨_, rfl, ?_⟩
  decreasing_trivial_pre_omega
  refine ⟨by simp [big]; omega, ?_⟩
  decreasing_trivial_pre_omega
  refine ⟨by simp [big], ?_⟩
  decreasing_trivial_pre_omega
  have kk4 : Keep [] st st4 := ((k1.trans k2).trans k3).trans k4
  have h4 := h.keep kk4 (by simp) (by simp) (by simp)
  have c1 : Walk D root (w1 ++ (p, s) :: back) root := wk3.app (.cons hs wk2)
  have c2 : Walk D root (w2 ++ back) root := wk4.app wk2
  have e1 : MV.tup (w1.map rowV ++ MV.tup [.str p, stepV s] :: (back.map rowV ++ [])) = rowsV (w1 ++ (p, s) :: back) := by simp
  have e2 : MV.tup (w2.map rowV ++ (back.map rowV ++ [])) = rowsV (w2 ++ back) := by simp
  rw [e1, e2]
  refine ⟨True.intro, ?_⟩
  decreasing_trivial_pre_omega
  refine load_of_ok R.bx R.lo (by omega) h4 (c1.fits wf) (by simp; omega) fun st5 k5 => ?_
  rw [even _ c1]
  decreasing_trivial_pre_omega
  refine ⟨True.intro, ?_⟩
  decreasing_trivial_pre_omega
  refine load_of_ok R.bx R.lo (by omega) (h4.keep k5 (by simp) (by simp) (by simp)) (c2.fits wf) (by simp; omega) fun st6 k6 => ?_
  rw [even _ c2]
  decreasing_trivial_pre_omega
  refine ⟨True.intro, ?_⟩
  decreasing_trivial_pre_omega
  exact q _ ((kk4.trans k5).trans k6)
end
end Mi
-- B8
namespace Mi
local macro_rules | `(tactic| decreasing_trivial_pre_omega) => `(tactic| repeat (first | (with_reducible refine w_seq ?_) | (with_reducible refine w_set ?_) | (with_reducible refine w_asg ?_) | (with_reducible refine w_par ?_) | (with_reducible refine w_setsub ?_) | (with_reducible refine w_iff ?_) | (with_reducible refine w_ret ?_) | (with_reducible refine w_expr ?_) | (with_reducible refine w_end ?_) | (with_reducible refine w_con ?_) | (with_reducible refine w_bin ?_) | (with_reducible refine w_neg ?_) | (with_reducible refine w_cmp ?_) | (with_reducible refine w_chn ?_) | (with_reducible refine w_and ?_) | (with_reducible refine w_or ?_) | (with_reducible refine w_not ?_) | (with_reducible refine w_ite ?_) | (with_reducible refine w_sub ?_) | (with_reducible refine w_sli ?_) | (with_reducible refine w_rev ?_) | (with_reducible refine w_fld ?_) | (with_reducible refine w_call ?_) | (with_reducible refine w_bmt ?_) | (with_reducible refine w_blt ?_) | (with_reducible refine w_isi ?_) | (with_reducible refine w_lst ?_) | (with_reducible refine w_tup ?_) | (with_reducible refine w_nil ?_) | (with_reducible refine w_arg ?_) | (with_reducible refine w_star ?_) | (with_reducible refine w_tr ?_) | (with_reducible refine o_add ?_) | (with_reducible refine o_sub ?_) | (with_reducible refine o_mod (by omega) ?_) | (with_reducible refine o_div (by omega) (by omega) ?_) | (with_reducible refine b_int ?_) | (with_reducible refine b_abs ?_) | (with_reducible refine b_max ?_) | (with_reducible refine b_min ?_) | (with_reducible refine c_lt ?_) | (with_reducible refine c_le ?_) | (with_reducible refine c_gt ?_) | (with_reducible refine c_ge ?_) | (with_reducible refine e_int ?_) | (with_reducible refine e_str ?_) | (with_reducible refine n_int ?_) | (with_reducible refine n_str ?_) | (with_reducible refine l_tup ?_) | (with_reducible refine l_lsv ?_) | (with_reducible refine w_mth ?_) | (with_reducible refine is_str ?_) | (with_reducible refine u_tup ?_) | (with_reducible refine l_new ?_) | (with_reducible refine isN_non ?_) | (with_reducible refine notN_non ?_) | (with_reducible refine isN_tup ?_) | (with_reducible refine notN_tup ?_) | (with_reducible refine w_for ?_) | (with_reducible refine w_whl ?_) | (with_reducible refine w_ev ?_) | (with_reducible refine w_keys ?_) | (with_reducible refine w_rng ?_) | (with_reducible refine it_tup ?_) | (with_reducible refine w_lc ?_) | (with_reducible refine w_dic ?_) | (with_reducible refine w_pc ?_) | (with_reducible refine w_pn ?_) | (with_reducible refine w_tg ?_) | (with_reducible refine w_ng ?_) | (with_reducible refine w_cn ?_) | (with_reducible refine w_cs ?_) | (with_reducible refine w_os ?_) | (with_reducible refine w_ov ?_) | ((with_reducible apply w_var); exact rfl) | ((with_reducible refine if_yes ?_ ?_); exact rfl) | ((with_reducible refine if_no ?_ ?_); exact rfl)))
local macro_rules | `(tactic| array_get_dec) => `(tactic| repeat (first | (with_reducible refine w_seq ?_) | (with_reducible refine w_set ?_) | (with_reducible refine w_asg ?_) | (with_reducible refine w_par ?_) | (with_reducible refine w_setsub ?_) | (with_reducible refine w_iff ?_) | (with_reducible refine w_ret ?_) | (with_reducible refine w_expr ?_) | (with_reducible refine w_end ?_) | (with_reducible refine w_con ?_) | (with_reducible refine w_bin ?_) | (with_reducible refine w_neg ?_) | (with_reducible refine w_cmp ?_) | (with_reducible refine w_chn ?_) | (with_reducible refine w_and ?_) | (with_reducible refine w_or ?_) | (with_reducible refine w_not ?_) | (with_reducible refine w_ite ?_) | (with_reducible refine w_sub ?_) | (with_reducible refine w_sli ?_) | (with_reducible refine w_rev ?_) | (with_reducible refine w_fld ?_) | (with_reducible refine w_call ?_) | (with_reducible refine w_bmt ?_) | (with_reducible refine w_blt ?_) | (with_reducible refine w_isi ?_) | (with_reducible refine w_lst ?_) | (with_reducible refine w_tup ?_) | (with_reducible refine w_nil ?_) | (with_reducible refine w_arg ?_) | (with_reducible refine w_star ?_) | (with_reducible refine w_tr ?_) | (with_reducible refine o_add ?_) | (with_reducible refine o_sub ?_) | (with_reducible refine o_mod (by omega) ?_) | (with_reducible refine o_div (by omega) (by omega) ?_) | (with_reducible refine b_int ?_) | (with_reducible refine b_abs ?_) | (with_reducible refine b_max ?_) | (with_reducible refine b_min ?_) | (with_reducible refine c_lt ?_) | (with_reducible refine c_le ?_) | (with_reducible refine c_gt ?_) | (with_reducible refine c_ge ?_) | (with_reducible refine e_int ?_) | (with_reducible refine e_str ?_) | (with_reducible refine n_int ?_) | (with_reducible refine n_str ?_) | (with_reducible refine l_tup ?_) | (with_reducible refine l_lsv ?_) | (with_reducible refine w_mth ?_) | (with_reducible refine is_str ?_) | (with_reducible refine u_tup ?_) | (with_reducible refine l_new ?_) | (with_reducible refine isN_non ?_) | (with_reducible refine notN_non ?_) | (with_reducible refine isN_tup ?_) | (with_reducible refine notN_tup ?_) | (with_reducible refine w_for ?_) | (with_reducible refine w_whl ?_) | (with_reducible refine w_ev ?_) | (with_reducible refine w_keys ?_) | (with_reducible refine w_rng ?_) | (with_reducible refine it_tup ?_) | (with_reducible refine w_dic ?_) | (with_reducible refine w_pc ?_) | (with_reducible refine w_pn ?_) | (with_reducible refine w_tg ?_) | (with_reducible refine w_ng ?_) | (with_reducible refine w_cn ?_) | (with_reducible refine w_cs ?_) | (with_reducible refine w_os ?_) | (with_reducible refine w_ov ?_) | ((with_reducible apply w_var); exact rfl) | ((with_reducible refine if_yes ?_ ?_); exact rfl) | ((with_reducible refine if_no ?_ ?_); exact rfl)))
def d_uneven_by : IDef := ⟨2, 6, [
    .asg (.name 2) (.call "met" (.cons (.var 0) (.cons (.var 1) .nil))),
    .for_ (.name 3) (.keys (.var 2)) [.for_ (.name 4) (.ev (.sub (.var 0) (.var 3))) [.iff (.cmp .inn (.var 1) (.call "met" (.cons (.var 0) (.cons (.sub (.var 4) (.neg (.con (.int 1)))) .nil)))) [.asg (.name 5) (.call "ring_by" (.cons (.var 0) (.cons (.var 1) (.cons (.var 2) (.cons (.tup (.cons (.var 3) (.cons (.var 4) .nil))) .nil))))), .iff (.cmp .notN (.var 5) (.con .non)) [.ret (.var 5)] []] []]],
    .ret (.con .non)]⟩
/-- a list walked, item by item -/
theorem item_at {α : Type} {f : α → MV} {l : List α} {pre r : List MV} {x : MV} (e : l.map f = pre ++ x :: r) : ∃ y, l[pre.length]? = some y ∧ x = f y := by
  have hxs : (l.map f)[pre.length]? = some x := by rw [e]; simp
  rw [List.getElem?_map] at hxs
  cases hs : l[pre.length]? with
  | none => rw [hs] at hxs; cases hxs
  | some y => rw [hs] at hxs; cases hxs; exact ⟨y, rfl, rfl⟩
theorem keys_fnd (fs : Fnd) : keysOf (fndV fs) = (keysF fs).map .str := by simp [keysOf, fndV, List.map_map, Function.comp_def]
section
variable {P : Prog} (R : HasRings P) {k : Nat} {st : Sto} {b ds dw : Nat} {D : BoxD} {Q : Post} {X : Xp} (h : BoxAt st b ds dw D) (wf : D.WF)
include R h wf
theorem uneven_by_ok (hu : P.df "uneven_by" = some d_uneven_by) (hk : 4 ≤ k) {root : Tx} (hr : root ∈ D.places) (even : ∀ ws, Walk D root ws root → D.load ws = 0) (q : ∀ st', Keep [] st st' → Q .non st') : sem P k "uneven_by" [.ref b, .str root] st Q X := by
  refine sem_go (by omega) hu rfl ?_
  show wpSs P _ [_, _, _] _ [some (.ref b), some (.str root), none, none, none, none] st
  decreasing_trivial_pre_omega
  refine met_ok R.bx R.met (by omega) h wf hr fun fs f st1 M k1 hf hge => ?_
  decreasing_trivial_pre_omega
  refine ⟨f, fndV fs, rfl, hf, ?_⟩
  refine loop_go (fun pre σ' st' => ∃ x3 x4 x5, σ' = [some (.ref b), some (.str root), some (.ref f), x3, x4, x5] ∧ Keep [] st st' ∧ st'[f]? = some (.dic true (fndV fs))) ?_ ?_ ?_ ?_
  · exact ⟨none, none, none, rfl, k1.new _ hge, get_set hf⟩
  · rintro _ _ _ ⟨_, _, _, _, _, z⟩
    exact z
  · rintro pre x r σ' st2 kk exs ⟨x3, x4, x5, rfl, k2, hf2⟩ hkk
    have exs : keysOf (fndV fs) = pre ++ x :: r := exs
    rw [keys_fnd] at exs
    obtain ⟨p, hp, rfl⟩ := item_at exs
    have hp := List.mem_of_getElem? hp
    have h2 := h.keep k2 (by simp) (by simp) (by simp)
    decreasing_trivial_pre_omega
    refine g_own h2.ob R.bx.mgi (getitem_ok R.bx h2 (by omega) (D.look (M.sub p hp)) ?_)
    decreasing_trivial_pre_omega
    refine loop_go (fun pre σ' st' => ∃ x4 x5, σ' = [some (.ref b), some (.str root), some (.ref f), some (.str p), x4, x5] ∧ Keep [] st st' ∧ st'[f]? = some (.dic true (fndV fs))) ⟨x4, x5, rfl, k2, hf2⟩ (fun _ _ _ _ => True.intro) ?_ ?_
    · rintro pre2 x r2 σ3 st3 kk3 exs ⟨x43, x53, rfl, k3, hf3⟩ hkk3
      obtain ⟨s, hs, rfl⟩ := item_at (show (D.at_ p).map stepV = pre2 ++ x :: r2 from exs)
      have hs := List.mem_of_getElem? hs
      obtain ⟨sf, sne, stp⟩ := wf.fit p s hs
      have h3 := h.keep k3 (by simp) (by simp) (by simp)
      decreasing_trivial_pre_omega
      refine g_tup (last_step sne) ?_
      decreasing_trivial_pre_omega
      refine met_ok R.bx R.met (by omega) h3 wf stp fun gs g st4 M4 k4 hg hge4 => ?_
      refine i_dic hg rfl ?_
      rw [fnd_in]
      have hf4 := k4.at_ f _ (by simp) hf3
      by_cases hin : root ∈ keysF gs
      · rw [decide_eq_true hin]
        decreasing_trivial_pre_omega
        refine ⟨by simp [big], ?_⟩
        decreasing_trivial_pre_omega
        refine ring_by_ok R (h3.keep k4 (by simp) (by simp) (by simp)) wf (by omega) hf4 M hp hs (M4.reach hin) even fun st5 k5 => ?_
        decreasing_trivial_pre_omega
        exact hkk3 _ _ ⟨_, _, rfl, (k3.trans k4).trans k5, k5.at_ f _ (by simp) hf4⟩
      · rw [decide_eq_false hin]
        decreasing_trivial_pre_omega
        exact hkk3 _ _ ⟨_, _, rfl, k3.trans k4, hf4⟩
    · rintro σ3 st3 ⟨x43, x53, rfl, k3, hf3⟩
      exact hkk _ _ ⟨_, _, _, rfl, k3, hf3⟩
  · rintro σ' st2 ⟨x3, x4, x5, rfl, k2, hf2⟩
    refine ⟨hf2, ?_⟩
    decreasing_trivial_pre_omega
    exact q _ (k2.new _ hge)
end
end Mi
-- B9
namespace Mi
local macro_rules | `(tactic| decreasing_trivial_pre_omega) => `(tactic| repeat (first | (with_reducible refine w_seq ?_) | (with_reducible refine w_set ?_) | (with_reducible refine w_asg ?_) | (with_reducible refine w_par ?_) | (with_reducible refine w_setsub ?_) | (with_reducible refine w_iff ?_) | (with_reducible refine w_ret ?_) | (with_reducible refine w_expr ?_) | (with_reducible refine w_end ?_) | (with_reducible refine w_con ?_) | (with_reducible refine w_bin ?_) | (with_reducible refine w_neg ?_) | (with_reducible refine w_cmp ?_) | (with_reducible refine w_chn ?_) | (with_reducible refine w_and ?_) | (with_reducible refine w_or ?_) | (with_reducible refine w_not ?_) | (with_reducible refine w_ite ?_) | (with_reducible refine w_sub ?_) | (with_reducible refine w_sli ?_) | (with_reducible refine w_rev ?_) | (with_reducible refine w_fld ?_) | (with_reducible refine w_call ?_) | (with_reducible refine w_bmt ?_) | (with_reducible refine w_blt ?_) | (with_reducible refine w_isi ?_) | (with_reducible refine w_lst ?_) | (with_reducible refine w_tup ?_) | (with_reducible refine w_nil ?_) | (with_reducible refine w_arg ?_) | (with_reducible refine w_star ?_) | (with_reducible refine w_tr ?_) | (with_reducible refine o_add ?_) | (with_reducible refine o_sub ?_) | (with_reducible refine o_mod (by omega) ?_) | (with_reducible refine o_div (by omega) (by omega) ?_) | (with_reducible refine b_int ?_) | (with_reducible refine b_abs ?_) | (with_reducible refine b_max ?_) | (with_reducible refine b_min ?_) | (with_reducible refine c_lt ?_) | (with_reducible refine c_le ?_) | (with_reducible refine c_gt ?_) | (with_reducible refine c_ge ?_) | (with_reducible refine e_int ?_) | (with_reducible refine e_str ?_) | (with_reducible refine n_int ?_) | (with_reducible refine n_str ?_) | (with_reducible refine l_tup ?_) | (with_reducible refine l_lsv ?_) | (with_reducible refine w_mth ?_) | (with_reducible refine is_str ?_) | (with_reducible refine u_tup ?_) | (with_reducible refine l_new ?_) | (with_reducible refine isN_non ?_) | (with_reducible refine notN_non ?_) | (with_reducible refine isN_tup ?_) | (with_reducible refine notN_tup ?_) | (with_reducible refine w_for ?_) | (with_reducible refine w_whl ?_) | (with_reducible refine w_ev ?_) | (with_reducible refine w_keys ?_) | (with_reducible refine w_rng ?_) | (with_reducible refine it_tup ?_) | (with_reducible refine w_lc ?_) | (with_reducible refine w_dic ?_) | (with_reducible refine w_pc ?_) | (with_reducible refine w_pn ?_) | (with_reducible refine w_tg ?_) | (with_reducible refine w_ng ?_) | (with_reducible refine w_cn ?_) | (with_reducible refine w_cs ?_) | (with_reducible refine w_os ?_) | (with_reducible refine w_ov ?_) | ((with_reducible apply w_var); exact rfl) | ((with_reducible refine if_yes ?_ ?_); exact rfl) | ((with_reducible refine if_no ?_ ?_); exact rfl)))
local macro_rules | `(tactic| array_get_dec) => `(tactic| repeat (first | (with_reducible refine w_seq ?_) | (with_reducible refine w_set ?_) | (with_reducible refine w_asg ?_) | (with_reducible refine w_par ?_) | (with_reducible refine w_setsub ?_) | (with_reducible refine w_iff ?_) | (with_reducible refine w_ret ?_) | (with_reducible refine w_expr ?_) | (with_reducible refine w_end ?_) | (with_reducible refine w_con ?_) | (with_reducible refine w_bin ?_) | (with_reducible refine w_neg ?_) | (with_reducible refine w_cmp ?_) | (with_reducible refine w_chn ?_) | (with_reducible refine w_and ?_) | (with_reducible refine w_or ?_) | (with_reducible refine w_not ?_) | (with_reducible refine w_ite ?_) | (with_reducible refine w_sub ?_) | (with_reducible refine w_sli ?_) | (with_reducible refine w_rev ?_) | (with_reducible refine w_fld ?_) | (with_reducible refine w_call ?_) | (with_reducible refine w_bmt ?_) | (with_reducible refine w_blt ?_) | (with_reducible refine w_isi ?_) | (with_reducible refine w_lst ?_) | (with_reducible refine w_tup ?_) | (with_reducible refine w_nil ?_) | (with_reducible refine w_arg ?_) | (with_reducible refine w_star ?_) | (with_reducible refine w_tr ?_) | (with_reducible refine o_add ?_) | (with_reducible refine o_sub ?_) | (with_reducible refine o_mod (by omega) ?_) | (with_reducible refine o_div (by omega) (by omega) ?_) | (with_reducible refine b_int ?_) | (with_reducible refine b_abs ?_) | (with_reducible refine b_max ?_) | (with_reducible refine b_min ?_) | (with_reducible refine c_lt ?_) | (with_reducible refine c_le ?_) | (with_reducible refine c_gt ?_) | (with_reducible refine c_ge ?_) | (with_reducible refine e_int ?_) | (with_reducible refine e_str ?_) | (with_reducible refine n_int ?_) | (with_reducible refine n_str ?_) | (with_reducible refine l_tup ?_) | (with_reducible refine l_lsv ?_) | (with_reducible refine w_mth ?_) | (with_reducible refine is_str ?_) | (with_reducible refine u_tup ?_) | (with_reducible refine l_new ?_) | (with_reducible refine isN_non ?_) | (with_reducible refine notN_non ?_) | (with_reducible refine isN_tup ?_) | (with_reducible refine notN_tup ?_) | (with_reducible refine w_for ?_) | (with_reducible refine w_whl ?_) | (with_reducible refine w_ev ?_) | (with_reducible refine w_keys ?_) | (with_reducible refine w_rng ?_) | (with_reducible refine it_tup ?_) | (with_reducible refine w_dic ?_) | (with_reducible refine w_pc ?_) | (with_reducible refine w_pn ?_) | (with_reducible refine w_tg ?_) | (with_reducible refine w_ng ?_) | (with_reducible refine w_cn ?_) | (with_reducible refine w_cs ?_) | (with_reducible refine w_os ?_) | (with_reducible refine w_ov ?_) | ((with_reducible apply w_var); exact rfl) | ((with_reducible refine if_yes ?_ ?_); exact rfl) | ((with_reducible refine if_no ?_ ?_); exact rfl)))
theorem strs_pd30 {st : Sto} : ∀ ws : List Tx, (ws.map MV.str).mapM (toPD 30 st) = some (ws.map PD.str)
  | [] => rfl
  | w :: ws => by
    rw [List.map_cons, List.mapM_cons, strs_pd30 ws]
    rfl
theorem any_strs (p : Tx) : ∀ ws : List Tx, ((ws.map PD.str).any fun z => PD.eqv z (.str p)) = decide (p ∈ ws)
  | [] => rfl
  | w :: ws => by
    rw [List.map_cons, List.any_cons, any_strs p ws, show PD.eqv (.str w) (.str p) = (w == p) from rfl]
    by_cases e : w = p
    · subst e; simp
    · have : (w == p) = false := by simp [e]
      rw [this]
      simp [Ne.symm e]
theorem scal_strs (ws : List Tx) : (ws.map MV.str).all scalar = true := by
  rw [List.all_map]
  simp [List.all_eq_true, Function.comp_def, scalar]
theorem in_strs {st : Sto} {a : Nat} {p : Tx} {ws : List Tx} {Q : Bool → Sto → Prop} (h : st[a]? = some (.lst (ws.map .str))) (q : Q (decide (p ∈ ws)) st) : opCmp .inn (.str p) (.ref a) st Q := by
  simp only [opCmp, opIn, h]
  exact ⟨.str p, ws.map .str, rfl, strs_pd30 ws, .inl ⟨rfl, scal_strs ws⟩, by rw [any_strs]; exact q⟩
theorem nin_strs {st : Sto} {a : Nat} {p : Tx} {ws : List Tx} {Q : Bool → Sto → Prop} (h : st[a]? = some (.lst (ws.map .str))) (q : Q (!decide (p ∈ ws)) st) : opCmp .nin (.str p) (.ref a) st Q := by
  simp only [opCmp, opIn, h]
  exact ⟨.str p, ws.map .str, rfl, strs_pd30 ws, .inl ⟨rfl, scal_strs ws⟩, by rw [any_strs]; exact q⟩
def d_turned : IDef := ⟨4, 8, [
    .asg (.name 4) (.lc (.var 7) (.tup [7, 5]) (.ev (.var 2)) .non [7, 5]),
    .iff (.cmp .inn (.var 1) (.var 4)) [.ret (.blt .tuple (.cons (.sli (.var 2) (.som (.bmt (.var 4) .index (.cons (.var 1) .nil))) .non) .nil))] [],
    .for_ (.name 5) (.ev (.ite (.cmp .nin (.var 1) (.var 3)) (.sub (.var 0) (.var 1)) (.tup .nil))) [.iff (.cmp .eq (.blt .len (.cons (.var 5) .nil)) (.con (.int 2))) [.asg (.name 6) (.call "turned" (.cons (.var 0) (.cons (.sub (.var 5) (.neg (.con (.int 1)))) (.cons (.lst (.star (.var 2) (.cons (.tup (.cons (.var 1) (.cons (.var 5) .nil))) .nil))) (.cons (.var 3) .nil))))), .iff (.cmp .notN (.var 6) (.con .non)) [.ret (.var 6)] []] []],
    .expr (.bmt (.var 3) .append (.cons (.var 1) .nil)),
    .ret (.con .non)]⟩
/-! turns -/
def BoxD.turns (D : BoxD) (p : Tx) : Nat := ((D.at_ p).filter fun s => decide (s.length = 2)).length
def BoxD.left (D : BoxD) (dl : List Tx) : Nat := ((D.places.filter fun p => decide (p ∉ dl)).map D.turns).sum
theorem left_congr {D : BoxD} {a b : List Tx} (h : ∀ x, x ∈ a ↔ x ∈ b) : D.left a = D.left b := by
  unfold BoxD.left
  congr 2
  exact List.filter_congr fun x _ => by simp [h x]
theorem left_aux (t : Tx → Nat) (dl : List Tx) (p : Tx) (hn : p ∉ dl) : ∀ l : List Tx, l.Nodup → p ∈ l → ((l.filter fun x => decide (x ∉ dl ++ [p])).map t).sum + t p = ((l.filter fun x => decide (x ∉ dl)).map t).sum
  | [], _, h => by simp at h
  | a :: l, nd, h => by
    obtain ⟨n1, n2⟩ := List.nodup_cons.mp nd
    by_cases e : a = p
    · subst e
      have : l.filter (fun x => decide (x ∉ dl ++ [a])) = l.filter fun x => decide (x ∉ dl) := List.filter_congr fun x hx => by
        have : x ≠ a := fun z => n1 (z ▸ hx)
        simp [this]
      rw [List.filter_cons_of_neg (by simp), List.filter_cons_of_pos (by simpa using hn), this]
      simp
      omega
    · have hp : p ∈ l := by simpa [Ne.symm e] using h
      have ih := left_aux t dl p hn l n2 hp
      by_cases c : a ∈ dl
      · rw [List.filter_cons_of_neg (by simp [c]), List.filter_cons_of_neg (by simp [c])]
        exact ih
      · rw [List.filter_cons_of_pos (by simp [c, e]), List.filter_cons_of_pos (by simp [c])]
        simp only [List.map_cons, List.sum_cons]
        omega
theorem left_new {D : BoxD} (wf : D.WF) {dl : List Tx} {p : Tx} (hp : p ∈ D.places) (h : p ∉ dl) : D.left (dl ++ [p]) + D.turns p = D.left dl := left_aux D.turns dl p h D.places wf.nd hp
/-- turns go up -/
structure Ups (D : BoxD) (rk : Tx → Nat) (N : Nat) : Prop where
  up : ∀ p, ∀ s ∈ D.at_ p, s.length = 2 → rk p < rk (tgt s)
  le : ∀ p, rk p ≤ N
  small : N ≤ 1000
section
variable {P : Prog} (R : HasRings P) {b ds dw : Nat} {D : BoxD} (wf : D.WF) {rk : Tx → Nat} {N : Nat} (U : Ups D rk N) (ht : P.df "turned" = some d_turned)
include R wf U ht
theorem turned_ok : ∀ (n : Nat) {k : Nat} {st : Sto} {p : Tx} {r dn : Nat} {rows : List (Tx × List Tx)} {dl : List Tx} {B : Nat} {Q : Post} {X : Xp}, N - rk p ≤ n → n + 2 ≤ k → BoxAt st b ds dw D → p ∈ D.places →
    st[r]? = some (.lst (rows.map rowV)) → (∀ y ∈ rows, rk y.1 < rk p) → rows.length ≤ rk p → r ≠ dn → st[dn]? = some (.lst (dl.map .str)) → dl.length + D.left (dl ++ rows.map (·.1)) ≤ B → B ≤ 1000000 →
    (∀ st' more, Keep [dn] st st' → st'[dn]? = some (.lst ((dl ++ more).map .str)) → (dl ++ more).length + D.left (dl ++ more ++ rows.map (·.1)) ≤ dl.length + D.left (dl ++ rows.map (·.1)) + 1 → Q .non st') →
    sem P k "turned" [.ref b, .str p, .ref r, .ref dn] st Q X := by
  intro n
  induction n using Nat.strongRecOn with
  | _ n ih =>
    intro k st p r dn rows dl B Q X hn hk h hp hr hrk hrl hne hdn hB hB2 q
    refine sem_go (by omega) ht rfl ?_
    show wpSs P _ [_, _, _, _, _] _ [some (.ref b), some (.str p), some (.ref r), some (.ref dn), none, none, none, none] st
    have rl : rows.length ≤ 1000 := by have := U.le p; have := U.small; omega
    decreasing_trivial_pre_omega
    refine it_lst hr ?_
    refine ⟨by simp [big]; omega, ?_⟩
    refine loop_go (fun pre acc st' => acc = (rows.take pre.length).map (fun y => .str y.1) ∧ st' = st) ⟨by simp, rfl⟩ (fun _ _ _ ⟨_, e⟩ => by rw [e]; exact hr) ?_ ?_
    · rintro pre x r0 acc st1 kk exs ⟨rfl, est⟩ hk1
      obtain ⟨y, hy, rfl⟩ := item_at (show rows.map rowV = pre ++ x :: r0 from exs)
      refine w_tt rfl ?_
      decreasing_trivial_pre_omega
      refine hk1 _ _ ⟨?_, est⟩
      rw [List.length_append, List.length_singleton, List.take_add_one, hy]
      simp
    · rintro acc st1 ⟨rfl, est⟩
      rw [est]
      decreasing_trivial_pre_omega
      have e : ((rows.take (rows.map rowV).length).map fun y => MV.str y.1) = (rows.map (·.1)).map .str := by rw [List.length_map, List.take_length, List.map_map]; rfl
      have hpn : p ∉ rows.map (·.1) := fun z => by
        obtain ⟨y, hy, e⟩ := List.mem_map.mp z
        have := hrk y hy
        rw [e] at this
        omega
      rw [e]
      refine in_strs get_new ?_
      rw [decide_eq_false hpn]
      decreasing_trivial_pre_omega
      generalize hS : st ++ [MO.lst ((rows.map (·.1)).map .str)] = S
      have kS : Keep [dn] st S := by rw [← hS]; exact Keep.app _ _ _
      have kS0 : Keep [] st S := by rw [← hS]; exact Keep.app _ _ _
      have hdS := kS0.at_ _ _ (by simp) hdn
      refine nin_strs hdS ?_
      by_cases hin : p ∈ dl
      · rw [decide_eq_true hin]
        decreasing_trivial_pre_omega
        refine ⟨by simp [big], ?_⟩
        decreasing_trivial_pre_omega
        refine ⟨True.intro, ?_⟩
        decreasing_trivial_pre_omega
        refine ⟨bt_lst hdS rfl, ?_⟩
        decreasing_trivial_pre_omega
        refine m_app hdS (by simp [big]; omega) ?_
        decreasing_trivial_pre_omega
        refine q _ [p] (kS.trans (Keep.set _ (by simp))) (by rw [get_set hdS]; simp) ?_
        rw [left_congr (b := dl ++ rows.map (·.1)) fun x => ⟨fun z => by
          rcases List.mem_append.mp z with z | z
          · rcases List.mem_append.mp z with z | z
            · exact List.mem_append_left _ z
            · rw [List.mem_singleton] at z
              subst z
              exact List.mem_append_left _ hin
          · exact List.mem_append_right _ z, fun z => by
          rcases List.mem_append.mp z with z | z
          · exact List.mem_append_left _ (List.mem_append_left _ z)
          · exact List.mem_append_right _ z⟩]
        simp only [List.length_append, List.length_singleton]
        omega
      · rw [decide_eq_false hin]
        decreasing_trivial_pre_omega
        have bR : ∀ S', Keep [dn] st S' → BoxAt S' b ds dw D := fun S' k => h.keep k (fun z => by simp at z; subst z; rw [h.ob] at hdn; cases hdn) (fun z => by simp at z; subst z; rw [h.stp] at hdn; cases hdn) (fun z => by simp at z; subst z; rw [h.wt] at hdn; cases hdn)
        have hS2 := bR S kS
        refine g_own hS2.ob R.bx.mgi (getitem_ok R.bx hS2 (by omega) (D.look hp) ?_)
        decreasing_trivial_pre_omega
        have lnew := left_new wf hp (dl := dl ++ rows.map (·.1)) (by simp only [List.mem_append, not_or]; exact ⟨hin, hpn⟩)
        refine loop_go (fun pre σ' st' => ∃ x4 x5 x6 x7 more, σ' = [some (.ref b), some (.str p), some (.ref r), some (.ref dn), x4, x5, x6, x7] ∧ Keep [dn] st st' ∧ st'[dn]? = some (.lst ((dl ++ more).map .str)) ∧
          (dl ++ more).length + D.left (dl ++ more ++ (rows.map (·.1) ++ [p])) + D.turns p ≤ dl.length + D.left (dl ++ rows.map (·.1)) + (((D.at_ p).take pre.length).filter fun s => decide (s.length = 2)).length) ?_ (fun _ _ _ _ => True.intro) ?_ ?_
        · refine ⟨_, _, _, _, [], rfl, kS, by simpa using hdS, ?_⟩
          have e9 : D.left (dl ++ [] ++ (rows.map (·.1) ++ [p])) = D.left (dl ++ rows.map (·.1) ++ [p]) := by rw [List.append_nil, List.append_assoc]
          rw [e9]
          simp only [List.append_nil, List.length_nil, List.take_zero, List.filter_nil]
          omega
        · rintro pre x r2 σ3 st3 kk3 exs ⟨x4, x5, x6, x7, more, rfl, k3, hd3, b3⟩ hk3
          obtain ⟨s, hs, rfl⟩ := item_at (show (D.at_ p).map stepV = pre ++ x :: r2 from exs)
          have hsm := List.mem_of_getElem? hs
          obtain ⟨sf, sne, stp⟩ := wf.fit p s hsm
          have tk : ((D.at_ p).take (pre ++ [stepV s]).length) = (D.at_ p).take pre.length ++ [s] := by rw [List.length_append, List.length_singleton, List.take_add_one, hs]; rfl
          decreasing_trivial_pre_omega
          by_cases h2 : s.length = 2
          · have e2 : (((s.map MV.str).length : Int) == 2) = true := by simp [h2]
            rw [e2]
            decreasing_trivial_pre_omega
            refine g_tup (last_step sne) ?_
            decreasing_trivial_pre_omega
            have hr3 : st3[r]? = some (.lst (rows.map rowV)) := k3.at_ _ _ (by simpa using hne) hr
            refine ⟨rows.map rowV, by simp only [seqOf, hr3], ?_⟩
            decreasing_trivial_pre_omega
            refine ⟨by simp [big], ?_⟩
            decreasing_trivial_pre_omega
            refine ⟨by simp [big]; omega, ?_⟩
            decreasing_trivial_pre_omega
            have up := U.up p s hsm h2
            have ule := U.le (tgt s)
            have el : rows.map rowV ++ [MV.tup [.str p, stepV s]] = (rows ++ [(p, s)]).map rowV := by simp
            rw [el]
            have kA : Keep [dn] st3 (st3 ++ [MO.lst ((rows ++ [(p, s)]).map rowV)]) := Keep.app _ _ _
            have lt : st3.length ≠ dn := fun z => by have := (List.getElem?_eq_some_iff.mp hd3).1; omega
            have fl : (((D.at_ p).take pre.length).filter fun s => decide (s.length = 2)).length ≤ D.turns p := (List.Sublist.filter _ (List.take_sublist _ _)).length_le
            refine ih (N - rk (tgt s)) (by omega) (rows := rows ++ [(p, s)]) (dl := dl ++ more) (B := B) (Nat.le_refl _) (by omega) (bR _ (k3.trans kA)) stp get_new ?_ (by simp; omega) lt (get_app hd3) ?_ hB2 ?_
            · intro y hy
              rcases List.mem_append.mp hy with z | z
              · have := hrk y z; omega
              · simp at z; subst z; exact up
            · rw [List.map_append]
              show _ + D.left (dl ++ more ++ (rows.map (·.1) ++ [p])) ≤ B
              omega
            · intro st4 more4 k4 hd4 b4
              decreasing_trivial_pre_omega
              refine hk3 _ _ ⟨_, _, _, _, more ++ more4, rfl, (k3.trans kA).trans k4, by rw [hd4]; simp, ?_⟩
              rw [tk, List.filter_append]
              rw [List.map_append] at b4
              have b4 : (dl ++ more ++ more4).length + D.left (dl ++ more ++ more4 ++ (rows.map (·.1) ++ [p])) ≤ (dl ++ more).length + D.left (dl ++ more ++ (rows.map (·.1) ++ [p])) + 1 := b4
              rw [← List.append_assoc dl more more4]
              simp only [List.filter_cons, h2, decide_true, if_true, List.filter_nil, List.length_append, List.length_singleton] at *
              omega
          · have e2 : (((s.map MV.str).length : Int) == 2) = false := by
              rw [beq_eq_false_iff_ne]
              simp
              omega
            rw [e2]
            decreasing_trivial_pre_omega
            refine hk3 _ _ ⟨_, _, _, _, more, rfl, k3, hd3, ?_⟩
            rw [tk, List.filter_append]
            simp only [List.length_append] at *
            omega
        · rintro σ3 st3 ⟨x4, x5, x6, x7, more, rfl, k3, hd3, b3⟩
          rw [List.length_map, List.take_length] at b3
          have b3 : (dl ++ more).length + D.left (dl ++ more ++ (rows.map (·.1) ++ [p])) + D.turns p ≤ dl.length + D.left (dl ++ rows.map (·.1)) + D.turns p := b3
          decreasing_trivial_pre_omega
          refine ⟨bt_lst hd3 rfl, ?_⟩
          decreasing_trivial_pre_omega
          refine m_app hd3 (by simp only [List.length_map, big]; omega) ?_
          decreasing_trivial_pre_omega
          refine q _ (more ++ [p]) (k3.trans (Keep.set _ (by simp))) (by rw [get_set hd3]; simp) ?_
          rw [left_congr (b := dl ++ more ++ (rows.map (·.1) ++ [p])) fun x => by
            simp only [List.mem_append, List.mem_singleton]
            exact ⟨fun z => by rcases z with (z | z | z) | z <;> simp [z], fun z => by rcases z with (z | z) | z | z <;> simp [z]⟩]
          simp only [List.length_append, List.length_singleton] at *
          omega
end
end Mi
-- B10
namespace Mi
local macro_rules | `(tactic| decreasing_trivial_pre_omega) => `(tactic| repeat (first | (with_reducible refine w_seq ?_) | (with_reducible refine w_set ?_) | (with_reducible refine w_asg ?_) | (with_reducible refine w_par ?_) | (with_reducible refine w_setsub ?_) | (with_reducible refine w_iff ?_) | (with_reducible refine w_ret ?_) | (with_reducible refine w_expr ?_) | (with_reducible refine w_end ?_) | (with_reducible refine w_con ?_) | (with_reducible refine w_bin ?_) | (with_reducible refine w_neg ?_) | (with_reducible refine w_cmp ?_) | (with_reducible refine w_chn ?_) | (with_reducible refine w_and ?_) | (with_reducible refine w_or ?_) | (with_reducible refine w_not ?_) | (with_reducible refine w_ite ?_) | (with_reducible refine w_sub ?_) | (with_reducible refine w_sli ?_) | (with_reducible refine w_rev ?_) | (with_reducible refine w_fld ?_) | (with_reducible refine w_call ?_) | (with_reducible refine w_bmt ?_) | (with_reducible refine w_blt ?_) | (with_reducible refine w_isi ?_) | (with_reducible refine w_lst ?_) | (with_reducible refine w_tup ?_) | (with_reducible refine w_nil ?_) | (with_reducible refine w_arg ?_) | (with_reducible refine w_star ?_) | (with_reducible refine w_tr ?_) | (with_reducible refine o_add ?_) | (with_reducible refine o_sub ?_) | (with_reducible refine o_mod (by omega) ?_) | (with_reducible refine o_div (by omega) (by omega) ?_) | (with_reducible refine b_int ?_) | (with_reducible refine b_abs ?_) | (with_reducible refine b_max ?_) | (with_reducible refine b_min ?_) | (with_reducible refine c_lt ?_) | (with_reducible refine c_le ?_) | (with_reducible refine c_gt ?_) | (with_reducible refine c_ge ?_) | (with_reducible refine e_int ?_) | (with_reducible refine e_str ?_) | (with_reducible refine n_int ?_) | (with_reducible refine n_str ?_) | (with_reducible refine l_tup ?_) | (with_reducible refine l_lsv ?_) | (with_reducible refine w_mth ?_) | (with_reducible refine is_str ?_) | (with_reducible refine u_tup ?_) | (with_reducible refine l_new ?_) | (with_reducible refine isN_non ?_) | (with_reducible refine notN_non ?_) | (with_reducible refine isN_tup ?_) | (with_reducible refine notN_tup ?_) | (with_reducible refine w_for ?_) | (with_reducible refine w_whl ?_) | (with_reducible refine w_ev ?_) | (with_reducible refine w_keys ?_) | (with_reducible refine w_rng ?_) | (with_reducible refine it_tup ?_) | (with_reducible refine w_lc ?_) | (with_reducible refine w_dic ?_) | (with_reducible refine w_pc ?_) | (with_reducible refine w_pn ?_) | (with_reducible refine w_tg ?_) | (with_reducible refine w_ng ?_) | (with_reducible refine w_cn ?_) | (with_reducible refine w_cs ?_) | (with_reducible refine w_os ?_) | (with_reducible refine w_ov ?_) | ((with_reducible apply w_var); exact rfl) | ((with_reducible refine if_yes ?_ ?_); exact rfl) | ((with_reducible refine if_no ?_ ?_); exact rfl)))
local macro_rules | `(tactic| array_get_dec) => `(tactic| repeat (first | (with_reducible refine w_seq ?_) | (with_reducible refine w_set ?_) | (with_reducible refine w_asg ?_) | (with_reducible refine w_par ?_) | (with_reducible refine w_setsub ?_) | (with_reducible refine w_iff ?_) | (with_reducible refine w_ret ?_) | (with_reducible refine w_expr ?_) | (with_reducible refine w_end ?_) | (with_reducible refine w_con ?_) | (with_reducible refine w_bin ?_) | (with_reducible refine w_neg ?_) | (with_reducible refine w_cmp ?_) | (with_reducible refine w_chn ?_) | (with_reducible refine w_and ?_) | (with_reducible refine w_or ?_) | (with_reducible refine w_not ?_) | (with_reducible refine w_ite ?_) | (with_reducible refine w_sub ?_) | (with_reducible refine w_sli ?_) | (with_reducible refine w_rev ?_) | (with_reducible refine w_fld ?_) | (with_reducible refine w_call ?_) | (with_reducible refine w_bmt ?_) | (with_reducible refine w_blt ?_) | (with_reducible refine w_isi ?_) | (with_reducible refine w_lst ?_) | (with_reducible refine w_tup ?_) | (with_reducible refine w_nil ?_) | (with_reducible refine w_arg ?_) | (with_reducible refine w_star ?_) | (with_reducible refine w_tr ?_) | (with_reducible refine o_add ?_) | (with_reducible refine o_sub ?_) | (with_reducible refine o_mod (by omega) ?_) | (with_reducible refine o_div (by omega) (by omega) ?_) | (with_reducible refine b_int ?_) | (with_reducible refine b_abs ?_) | (with_reducible refine b_max ?_) | (with_reducible refine b_min ?_) | (with_reducible refine c_lt ?_) | (with_reducible refine c_le ?_) | (with_reducible refine c_gt ?_) | (with_reducible refine c_ge ?_) | (with_reducible refine e_int ?_) | (with_reducible refine e_str ?_) | (with_reducible refine n_int ?_) | (with_reducible refine n_str ?_) | (with_reducible refine l_tup ?_) | (with_reducible refine l_lsv ?_) | (with_reducible refine w_mth ?_) | (with_reducible refine is_str ?_) | (with_reducible refine u_tup ?_) | (with_reducible refine l_new ?_) | (with_reducible refine isN_non ?_) | (with_reducible refine notN_non ?_) | (with_reducible refine isN_tup ?_) | (with_reducible refine notN_tup ?_) | (with_reducible refine w_for ?_) | (with_reducible refine w_whl ?_) | (with_reducible refine w_ev ?_) | (with_reducible refine w_keys ?_) | (with_reducible refine w_rng ?_) | (with_reducible refine it_tup ?_) | (with_reducible refine w_dic ?_) | (with_reducible refine w_pc ?_) | (with_reducible refine w_pn ?_) | (with_reducible refine w_tg ?_) | (with_reducible refine w_ng ?_) | (with_reducible refine w_cn ?_) | (with_reducible refine w_cs ?_) | (with_reducible refine w_os ?_) | (with_reducible refine w_ov ?_) | ((with_reducible apply w_var); exact rfl) | ((with_reducible refine if_yes ?_ ?_); exact rfl) | ((with_reducible refine if_no ?_ ?_); exact rfl)))
def d_uneven_ring : IDef := ⟨1, 4, [
    .asg (.name 1) (.lst .nil),
    .for_ (.name 2) (.keys (.call "met" (.cons (.var 0) (.cons (.fld (.var 0) "first") .nil)))) [.asg (.name 3) (.call "turned" (.cons (.var 0) (.cons (.var 2) (.cons (.lst .nil) (.cons (.var 1) .nil))))), .iff (.cmp .isN (.var 3) (.con .non)) [.asg (.name 3) (.call "uneven_by" (.cons (.var 0) (.cons (.var 2) .nil)))] [], .iff (.cmp .notN (.var 3) (.con .non)) [.ret (.var 3)] []],
    .ret (.con .non)]⟩
section
variable {P : Prog} (R : HasRings P) {b ds dw : Nat} {D : BoxD} (wf : D.WF) {rk : Tx → Nat} {N : Nat} (U : Ups D rk N) (ht : P.df "turned" = some d_turned) (hu : P.df "uneven_by" = some d_uneven_by)
include R wf U ht hu
theorem uneven_ring_ok (hur : P.df "uneven_ring" = some d_uneven_ring) {k : Nat} (hk : N + 6 ≤ k) {st : Sto} {Q : Post} {X : Xp} (h : BoxAt st b ds dw D) {fi : Tx} {fss : List (List Tx)} {rest : List (Tx × List (List Tx))} (hfi : D.steps = (fi, fss) :: rest) (hl : D.left [] ≤ 100000)
    (even : ∀ p, Reach D fi p → ∀ ws, Walk D p ws p → D.load ws = 0) (q : ∀ st', Keep [] st st' → Q .non st') : sem P k "uneven_ring" [.ref b] st Q X := by
  refine sem_go (by omega) hur rfl ?_
  show wpSs P _ [_, _, _] _ [some (.ref b), none, none, none] st
  have hfp : fi ∈ D.places := by simp [BoxD.places, hfi]
  decreasing_trivial_pre_omega
  refine ⟨by simp [big], ?_⟩
  decreasing_trivial_pre_omega
  have k0 : Keep [] st (st ++ [MO.lst []]) := Keep.app _ _ _
  have h0 := h.keep k0 (by simp) (by simp) (by simp)
  refine f_prop h0.ob R.bx.pfi ?_
  refine first_ok R.bx h0 (by omega) hfi ?_
  decreasing_trivial_pre_omega
  refine met_ok R.bx R.met (by omega) h0 wf hfp fun fs f st1 M k1 hf hge => ?_
  refine ⟨f, fndV fs, rfl, hf, ?_⟩
  have hd1 : st1[st.length]? = some (.lst []) := k1.at_ _ _ (by simp) get_new
  have fne : f ≠ st.length := fun z => by subst z; rw [hf] at hd1; cases hd1
  have lfs := M.len wf
  have hlen : st.length + 1 ≤ f := by simpa using hge
  refine loop_go (fun pre σ' st' => ∃ x2 x3 dl, σ' = [some (.ref b), some (.ref st.length), x2, x3] ∧ Keep [] st st' ∧ st'[f]? = some (.dic true (fndV fs)) ∧ st'[st.length]? = some (.lst (dl.map .str)) ∧ dl.length + D.left dl ≤ D.left [] + pre.length ∧ pre.length ≤ 40) ?_ ?_ ?_ ?_
  · exact ⟨none, none, [], rfl, (k0.trans k1).new _ (by omega), get_set hf, get_other fne hd1, by simp, by simp⟩
  · rintro _ _ _ ⟨_, _, _, _, _, z, _⟩
    exact z
  · rintro pre x r σ' st2 kk exs ⟨x2, x3, dl, rfl, k2, hf2, hd2, bd, bp⟩ hkk
    have exs : keysOf (fndV fs) = pre ++ x :: r := exs
    rw [keys_fnd] at exs
    have pl : pre.length < 40 := by
      have := congrArg List.length exs
      simp at this
      omega
    obtain ⟨p, hp, rfl⟩ := item_at exs
    have hp := List.mem_of_getElem? hp
    have h2 := h.keep k2 (by simp) (by simp) (by simp)
    decreasing_trivial_pre_omega
    refine ⟨by simp [big], ?_⟩
    decreasing_trivial_pre_omega
    have ka : Keep [] st2 (st2 ++ [MO.lst []]) := Keep.app _ _ _
    have ne2 : st2.length ≠ st.length := fun z => by have := (List.getElem?_eq_some_iff.mp hd2).1; omega
    refine turned_ok R wf U ht (N - rk p) (rows := []) (dl := dl) (B := D.left [] + 100) (Nat.le_refl _) (by omega) (h2.keep ka (by simp) (by simp) (by simp)) (M.sub p hp) get_new (by simp) (by simp) ne2 (get_app hd2) (by simp; omega) (by omega) fun st3 more k3 hd3 b3 => ?_
    have b3 : (dl ++ more).length + D.left (dl ++ more) ≤ dl.length + D.left dl + 1 := by simpa using b3
    have k3' : Keep [] st st3 := ⟨Nat.le_trans k2.le (Nat.le_trans ka.le k3.le), fun i o _ hi => k3.at_ i o (fun z => by
      rw [List.mem_singleton] at z
      subst z
      have := (List.getElem?_eq_some_iff.mp hi).1
      omega) (ka.at_ i o (by simp) (k2.at_ i o (by simp) hi))⟩
    have hf3 : st3[f]? = some (.dic true (fndV fs)) := k3.at_ _ _ (by simpa using fne) (get_app hf2)
    have h3 := h.keep k3' (by simp) (by simp) (by simp)
    decreasing_trivial_pre_omega
    refine uneven_by_ok R h3 wf hu (by omega) (M.sub p hp) (even p (M.reach hp)) fun st4 k4 => ?_
    decreasing_trivial_pre_omega
    refine hkk _ _ ⟨_, _, dl ++ more, rfl, k3'.trans k4, k4.at_ _ _ (by simp) hf3, k4.at_ _ _ (by simp) hd3, ?_, ?_⟩
    · rw [List.length_append (as := pre), List.length_singleton]
      omega
    · rw [List.length_append, List.length_singleton]
      omega
  · rintro σ' st2 ⟨x2, x3, dl, rfl, k2, hf2, hd2, _, _⟩
    refine ⟨hf2, ?_⟩
    decreasing_trivial_pre_omega
    exact q _ (k2.new _ (by omega))
end
end Mi
-- B11
namespace Mi
local macro_rules | `(tactic| decreasing_trivial_pre_omega) => `(tactic| repeat (first | (with_reducible refine w_seq ?_) | (with_reducible refine w_set ?_) | (with_reducible refine w_asg ?_) | (with_reducible refine w_par ?_) | (with_reducible refine w_setsub ?_) | (with_reducible refine w_iff ?_) | (with_reducible refine w_ret ?_) | (with_reducible refine w_expr ?_) | (with_reducible refine w_end ?_) | (with_reducible refine w_con ?_) | (with_reducible refine w_bin ?_) | (with_reducible refine w_neg ?_) | (with_reducible refine w_cmp ?_) | (with_reducible refine w_chn ?_) | (with_reducible refine w_and ?_) | (with_reducible refine w_or ?_) | (with_reducible refine w_not ?_) | (with_reducible refine w_ite ?_) | (with_reducible refine w_sub ?_) | (with_reducible refine w_sli ?_) | (with_reducible refine w_rev ?_) | (with_reducible refine w_fld ?_) | (with_reducible refine w_call ?_) | (with_reducible refine w_bmt ?_) | (with_reducible refine w_blt ?_) | (with_reducible refine w_isi ?_) | (with_reducible refine w_lst ?_) | (with_reducible refine w_tup ?_) | (with_reducible refine w_nil ?_) | (with_reducible refine w_arg ?_) | (with_reducible refine w_star ?_) | (with_reducible refine w_tr ?_) | (with_reducible refine o_add ?_) | (with_reducible refine o_sub ?_) | (with_reducible refine o_mod (by omega) ?_) | (with_reducible refine o_div (by omega) (by omega) ?_) | (with_reducible refine b_int ?_) | (with_reducible refine b_abs ?_) | (with_reducible refine b_max ?_) | (with_reducible refine b_min ?_) | (with_reducible refine c_lt ?_) | (with_reducible refine c_le ?_) | (with_reducible refine c_gt ?_) | (with_reducible refine c_ge ?_) | (with_reducible refine e_int ?_) | (with_reducible refine e_str ?_) | (with_reducible refine n_int ?_) | (with_reducible refine n_str ?_) | (with_reducible refine l_tup ?_) | (with_reducible refine l_lsv ?_) | (with_reducible refine w_mth ?_) | (with_reducible refine is_str ?_) | (with_reducible refine u_tup ?_) | (with_reducible refine l_new ?_) | (with_reducible refine isN_non ?_) | (with_reducible refine notN_non ?_) | (with_reducible refine isN_tup ?_) | (with_reducible refine notN_tup ?_) | (with_reducible refine w_for ?_) | (with_reducible refine w_whl ?_) | (with_reducible refine w_ev ?_) | (with_reducible refine w_keys ?_) | (with_reducible refine w_rng ?_) | (with_reducible refine it_tup ?_) | (with_reducible refine w_lc ?_) | (with_reducible refine w_dic ?_) | (with_reducible refine w_pc ?_) | (with_reducible refine w_pn ?_) | (with_reducible refine w_tg ?_) | (with_reducible refine w_ng ?_) | (with_reducible refine w_cn ?_) | (with_reducible refine w_cs ?_) | (with_reducible refine w_os ?_) | (with_reducible refine w_ov ?_) | ((with_reducible apply w_var); exact rfl) | ((with_reducible refine if_yes ?_ ?_); exact rfl) | ((with_reducible refine if_no ?_ ?_); exact rfl)))
local macro_rules | `(tactic| array_get_dec) => `(tactic| repeat (first | (with_reducible refine w_seq ?_) | (with_reducible refine w_set ?_) | (with_reducible refine w_asg ?_) | (with_reducible refine w_par ?_) | (with_reducible refine w_setsub ?_) | (with_reducible refine w_iff ?_) | (with_reducible refine w_ret ?_) | (with_reducible refine w_expr ?_) | (with_reducible refine w_end ?_) | (with_reducible refine w_con ?_) | (with_reducible refine w_bin ?_) | (with_reducible refine w_neg ?_) | (with_reducible refine w_cmp ?_) | (with_reducible refine w_chn ?_) | (with_reducible refine w_and ?_) | (with_reducible refine w_or ?_) | (with_reducible refine w_not ?_) | (with_reducible refine w_ite ?_) | (with_reducible refine w_sub ?_) | (with_reducible refine w_sli ?_) | (with_reducible refine w_rev ?_) | (with_reducible refine w_fld ?_) | (with_reducible refine w_call ?_) | (with_reducible refine w_bmt ?_) | (with_reducible refine w_blt ?_) | (with_reducible refine w_isi ?_) | (with_reducible refine w_lst ?_) | (with_reducible refine w_tup ?_) | (with_reducible refine w_nil ?_) | (with_reducible refine w_arg ?_) | (with_reducible refine w_star ?_) | (with_reducible refine w_tr ?_) | (with_reducible refine o_add ?_) | (with_reducible refine o_sub ?_) | (with_reducible refine o_mod (by omega) ?_) | (with_reducible refine o_div (by omega) (by omega) ?_) | (with_reducible refine b_int ?_) | (with_reducible refine b_abs ?_) | (with_reducible refine b_max ?_) | (with_reducible refine b_min ?_) | (with_reducible refine c_lt ?_) | (with_reducible refine c_le ?_) | (with_reducible refine c_gt ?_) | (with_reducible refine c_ge ?_) | (with_reducible refine e_int ?_) | (with_reducible refine e_str ?_) | (with_reducible refine n_int ?_) | (with_reducible refine n_str ?_) | (with_reducible refine l_tup ?_) | (with_reducible refine l_lsv ?_) | (with_reducible refine w_mth ?_) | (with_reducible refine is_str ?_) | (with_reducible refine u_tup ?_) | (with_reducible refine l_new ?_) | (with_reducible refine isN_non ?_) | (with_reducible refine notN_non ?_) | (with_reducible refine isN_tup ?_) | (with_reducible refine notN_tup ?_) | (with_reducible refine w_for ?_) | (with_reducible refine w_whl ?_) | (with_reducible refine w_ev ?_) | (with_reducible refine w_keys ?_) | (with_reducible refine w_rng ?_) | (with_reducible refine it_tup ?_) | (with_reducible refine w_dic ?_) | (with_reducible refine w_pc ?_) | (with_reducible refine w_pn ?_) | (with_reducible refine w_tg ?_) | (with_reducible refine w_ng ?_) | (with_reducible refine w_cn ?_) | (with_reducible refine w_cs ?_) | (with_reducible refine w_os ?_) | (with_reducible refine w_ov ?_) | ((with_reducible apply w_var); exact rfl) | ((with_reducible refine if_yes ?_ ?_); exact rfl) | ((with_reducible refine if_no ?_ ?_); exact rfl)))
/-! ### words -/
def lowers : Tx := [97, 98, 99, 100, 101, 102, 103, 104, 105, 106, 107, 108, 109, 110, 111, 112, 113, 114, 115, 116, 117, 118, 119, 120, 121, 122]
def figs : Tx := [48, 49, 50, 51, 52, 53, 54, 55, 56, 57]
/-- a name -/
def nmB (w : Tx) : Bool := decide (1 ≤ w.length) && decide (w.length ≤ 8) && w.all (lowers.contains ·)
def d_is_name : IDef := ⟨1, 2, [
    .iff (.or (.not (.isi (.var 0) .str)) (.not (.chn .le .le (.con (.int 1)) (.blt .len (.cons (.var 0) .nil)) (.con (.int 8))))) [.ret (.con (.bl false))] [],
    .ret (.blt .all (.cons (.lc (.cmp .inn (.var 1) (.con (.str lowers))) (.name 1) (.ev (.var 0)) .non [1]) .nil))]⟩
def d_are_unlike : IDef := ⟨1, 3, [
    .asg (.name 1) (.lst .nil),
    .for_ (.name 2) (.ev (.var 0)) [.iff (.cmp .inn (.var 2) (.var 1)) [.ret (.con (.bl false))] [], .expr (.bmt (.var 1) .append (.cons (.var 2) .nil))],
    .ret (.con (.bl true))]⟩
def d_number_told : IDef := ⟨1, 2, [
    .iff (.or (.not (.chn .le .le (.con (.int 1)) (.blt .len (.cons (.var 0) .nil)) (.con (.int 9)))) (.not (.blt .all (.cons (.lc (.cmp .inn (.var 1) (.con (.str figs))) (.name 1) (.ev (.var 0)) .non [1]) .nil)))) [.ret (.con .non)] [],
    .ret (.ite (.or (.cmp .ne (.sub (.var 0) (.con (.int 0))) (.con (.str [48]))) (.cmp .eq (.var 0) (.con (.str [48])))) (.blt .int (.cons (.var 0) .nil)) (.con .non))]⟩
theorem it_str {s : Tx} {st : Sto} {R : It → Sto → Prop} (h : R ⟨s.map fun c => .str [c], fun _ => True⟩ st) : itemsOf (.str s) st R := h
theorem in_str {c : Nat} {t : Tx} {st : Sto} {Q : Bool → Sto → Prop} (q : Q (t.contains c) st) : opCmp .inn (.str [c]) (.str t) st Q := q
theorem b_all {rp : PD → Tx} {st : Sto} {Q : Post} {p : Nat} {bs : List Bool} (h : st[p]? = some (.lst (bs.map .bl))) (q : Q (.bl (bs.all id)) st) : opBlt rp .all [.ref p] st Q := ⟨bs, h, q⟩
theorem b_any {rp : PD → Tx} {st : Sto} {Q : Post} {p : Nat} {bs : List Bool} (h : st[p]? = some (.lst (bs.map .bl))) (q : Q (.bl (bs.any id)) st) : opBlt rp .any [.ref p] st Q := ⟨bs, h, q⟩
theorem g_sgn {P : Prog} {F : Phi} {st : Sto} {Q : Post} {X : Xp} {s : Tx} {n : Int} {c : Nat} (hl : s.length ≤ big) (hc : (ixOf s.length n).bind (s[·]?) = some c) (q : Q (.str [c]) st) : opGet P F (.str s) (.int n) st Q X := .inl ⟨n, c, rfl, hl, hc, q⟩
/-- which signs of w are in t -/
theorem signs_ok {P : Prog} {F : Phi} {σ : Env} {st : Sto} {Q : Post} {X : Xp} {w t : Tx} {i j : Nat} (hw : σ[i]? = some (some (.str w))) (hij : j < σ.length) (hij2 : i ≠ j) (hl : w.length < big) (q : ∀ st' p, Keep [] st st' → st'[p]? = some (.lst ((w.map (t.contains ·)).map .bl)) → Q (.ref p) st') :
    wpE P F (.lc (.cmp .inn (.var j) (.con (.str t))) (.name j) (.ev (.var i)) .non [j]) σ st Q X := by
  refine w_lc (w_ev (w_var hw ?_))
  refine it_str ⟨by simpa using hl, ?_⟩
  refine loop_go (fun pre acc st' => st' = st ∧ ∃ pw : Tx, pre = pw.map (fun c => .str [c]) ∧ acc = pw.map fun c => .bl (t.contains c)) ⟨rfl, [], rfl, rfl⟩ (fun _ _ _ _ => True.intro) ?_ ?_
  · rintro pre x r acc st' k e ⟨rfl, pw, rfl, rfl⟩ hk
    obtain ⟨c, _, rfl⟩ := item_at e
    decreasing_trivial_pre_omega
    refine w_var (v := .str [c]) (by simp [wipeE, hij]) ?_
    decreasing_trivial_pre_omega
    refine in_str ?_
    exact hk _ _ ⟨rfl, pw ++ [c], by simp, by simp⟩
  · rintro acc st' ⟨rfl, pw, e, rfl⟩
    have e : w = pw := by
      have : w.map (fun c => MV.str [c]) = pw.map fun c => .str [c] := e
      have h := congrArg (List.map fun (m : MV) => match m with | .str [c] => c | _ => 0) this
      simpa [List.map_map, Function.comp_def] using h
    subst e
    refine q _ _ (Keep.app [] st' _) ?_
    rw [get_new]; simp [List.map_map, Function.comp_def]
section
variable {P : Prog} {k : Nat} {st : Sto} {Q : Post} {X : Xp}
theorem is_name_ok (hd : P.df "is_name" = some d_is_name) (hk : 1 ≤ k) {w : Tx} (hl : w.length < big) (q : ∀ st', Keep [] st st' → Q (.bl (nmB w)) st') : sem P k "is_name" [.str w] st Q X := by
  refine sem_go hk hd rfl ?_
  show wpSs P _ [_, _] _ [some (.str w), none] st
  decreasing_trivial_pre_omega
  refine l_str (by omega) ?_
  decreasing_trivial_pre_omega
  by_cases h1 : 1 ≤ w.length
  · rw [decide_eq_true (show (1 : Int) ≤ w.length by omega)]
    decreasing_trivial_pre_omega
    by_cases h2 : w.length ≤ 8
    · rw [decide_eq_true (show (w.length : Int) ≤ 8 by omega)]
      array_get_dec
      refine signs_ok rfl (Nat.lt_succ_self 1) (by decide) hl fun st' p k' hp => ?_
      array_get_dec
      refine b_all hp ?_
      have := q st' k'
      simpa [nmB, h1, h2, List.all_map, Function.comp_def] using this
    · rw [decide_eq_false (show ¬ (w.length : Int) ≤ 8 by omega)]
      decreasing_trivial_pre_omega
      have := q st (Keep.refl _ _)
      simpa [nmB, h2] using this
  · rw [decide_eq_false (show ¬ (1 : Int) ≤ w.length by omega)]
    decreasing_trivial_pre_omega
    have := q st (Keep.refl _ _)
    simpa [nmB, h1] using this
theorem unlike_ok (hd : P.df "are_unlike" = some d_are_unlike) (hk : 1 ≤ k) {ws : List Tx} (hn : ws.Nodup) (hl : ws.length < big) (q : ∀ st', Keep [] st st' → Q (.bl true) st') : sem P k "are_unlike" [.tup (ws.map .str)] st Q X := by
  refine sem_go hk hd rfl ?_
  show wpSs P _ [_, _, _] _ [some (.tup (ws.map .str)), none, none] st
  decreasing_trivial_pre_omega
  refine ⟨by simp [big], ?_⟩
  decreasing_trivial_pre_omega
  refine loop_go (fun pre σ' st' => ∃ (x2 : Option MV) (pw : List Tx), σ' = [some (.tup (ws.map .str)), some (.ref st.length), x2] ∧ pre = pw.map .str ∧ Keep [] st st' ∧ st'[st.length]? = some (.lst (pw.map .str))) ?_ (fun _ _ _ _ => True.intro) ?_ ?_
  · exact ⟨none, [], rfl, rfl, Keep.app _ _ _, by simp⟩
  · rintro pre x r σ' st' kk e ⟨x2, pw, rfl, rfl, k1, hp⟩ hkk
    have e : ws.map MV.str = pw.map .str ++ x :: r := e
    obtain ⟨w, hw, rfl⟩ := item_at e
    have hnot : w ∉ pw := by
      intro hm
      obtain ⟨i, hi⟩ := List.getElem?_of_mem hm
      have hil : i < pw.length := (List.getElem?_eq_some_iff.mp hi).1
      have h2 : (ws.map MV.str)[i]? = some (.str w) := by
        rw [e, List.getElem?_append_left (by simpa using hil), List.getElem?_map, hi]; rfl
      rw [List.getElem?_map] at h2
      cases h3 : ws[i]? with
      | none => rw [h3] at h2; cases h2
      | some y =>
        rw [h3] at h2
        cases h2
        have hw : ws[pw.length]? = some w := by simpa using hw
        have a1 := (List.getElem?_eq_some_iff.mp h3).1
        have := (List.getElem?_inj a1 hn).mp (h3.trans hw.symm)
        omega
    decreasing_trivial_pre_omega
    refine in_strs hp ?_
    rw [decide_eq_false hnot]
    decreasing_trivial_pre_omega
    refine ⟨bt_lst hp rfl, ?_⟩
    decreasing_trivial_pre_omega
    have hlen := congrArg List.length e
    simp at hlen
    refine m_app hp (by simp; omega) ?_
    exact hkk _ _ ⟨_, pw ++ [w], rfl, by simp, k1.new _ (Nat.le_refl _), by rw [get_set hp]; simp⟩
  · rintro σ' st' ⟨x2, pw, rfl, _, k1, hp⟩
    decreasing_trivial_pre_omega
    exact q _ k1
/-- a number of one figure -/
theorem number_ok (hd : P.df "number_told" = some d_number_told) (hk : 1 ≤ k) {n : Nat} (hn : 1 ≤ n ∧ n ≤ 9) (q : ∀ st', Keep [] st st' → Q (.int n) st') : sem P k "number_told" [.str [48 + n]] st Q X := by
  refine sem_go hk hd rfl ?_
  show wpSs P _ [_, _] _ [some (.str [48 + n]), none] st
  decreasing_trivial_pre_omega
  refine l_str (by simp [big]) ?_
  array_get_dec
  refine signs_ok rfl (Nat.lt_succ_self 1) (by decide) (by simp [big]) fun st' p k' hp => ?_
  array_get_dec
  have hc : figs.contains (48 + n) = true := by
    obtain h | h | h | h | h | h | h | h | h : n = 1 ∨ n = 2 ∨ n = 3 ∨ n = 4 ∨ n = 5 ∨ n = 6 ∨ n = 7 ∨ n = 8 ∨ n = 9 := by omega
    all_goals (subst h; rfl)
  refine b_all hp ?_
  rw [show ([48 + n].map (figs.contains ·)).all id = true by simp only [List.map_cons, List.map_nil, hc]; rfl]
  decreasing_trivial_pre_omega
  refine g_sgn (c := 48 + n) (by simp [big]) (by rfl) ?_
  decreasing_trivial_pre_omega
  rw [show (!(([48 + n] : Tx) == [48])) = true by simp; omega]
  decreasing_trivial_pre_omega
  refine ⟨n, ?_, q _ k'⟩
  have h2 : ([48 + n] : Tx).all (fun c => 48 ≤ c && c ≤ 57) = true := by simp; omega
  unfold digitVal
  rw [if_pos ⟨by simp, by simp, h2⟩]
  simp
  omega
end
end Mi
-- B12
namespace Mi
local macro_rules | `(tactic| decreasing_trivial_pre_omega) => `(tactic| repeat (first | (with_reducible refine w_seq ?_) | (with_reducible refine w_set ?_) | (with_reducible refine w_asg ?_) | (with_reducible refine w_par ?_) | (with_reducible refine w_setsub ?_) | (with_reducible refine w_iff ?_) | (with_reducible refine w_ret ?_) | (with_reducible refine w_expr ?_) | (with_reducible refine w_end ?_) | (with_reducible refine w_con ?_) | (with_reducible refine w_bin ?_) | (with_reducible refine w_neg ?_) | (with_reducible refine w_cmp ?_) | (with_reducible refine w_chn ?_) | (with_reducible refine w_and ?_) | (with_reducible refine w_or ?_) | (with_reducible refine w_not ?_) | (with_reducible refine w_ite ?_) | (with_reducible refine w_sub ?_) | (with_reducible refine w_sli ?_) | (with_reducible refine w_rev ?_) | (with_reducible refine w_fld ?_) | (with_reducible refine w_call ?_) | (with_reducible refine w_bmt ?_) | (with_reducible refine w_blt ?_) | (with_reducible refine w_isi ?_) | (with_reducible refine w_lst ?_) | (with_reducible refine w_tup ?_) | (with_reducible refine w_nil ?_) | (with_reducible refine w_arg ?_) | (with_reducible refine w_star ?_) | (with_reducible refine w_tr ?_) | (with_reducible refine o_add ?_) | (with_reducible refine o_sub ?_) | (with_reducible refine o_mod (by omega) ?_) | (with_reducible refine o_div (by omega) (by omega) ?_) | (with_reducible refine b_int ?_) | (with_reducible refine b_abs ?_) | (with_reducible refine b_max ?_) | (with_reducible refine b_min ?_) | (with_reducible refine c_lt ?_) | (with_reducible refine c_le ?_) | (with_reducible refine c_gt ?_) | (with_reducible refine c_ge ?_) | (with_reducible refine e_int ?_) | (with_reducible refine e_str ?_) | (with_reducible refine n_int ?_) | (with_reducible refine n_str ?_) | (with_reducible refine l_tup ?_) | (with_reducible refine l_lsv ?_) | (with_reducible refine w_mth ?_) | (with_reducible refine is_str ?_) | (with_reducible refine u_tup ?_) | (with_reducible refine l_new ?_) | (with_reducible refine isN_non ?_) | (with_reducible refine notN_non ?_) | (with_reducible refine isN_tup ?_) | (with_reducible refine notN_tup ?_) | (with_reducible refine w_for ?_) | (with_reducible refine w_whl ?_) | (with_reducible refine w_ev ?_) | (with_reducible refine w_keys ?_) | (with_reducible refine w_rng ?_) | (with_reducible refine it_tup ?_) | (with_reducible refine w_lc ?_) | (with_reducible refine w_dic ?_) | (with_reducible refine w_pc ?_) | (with_reducible refine w_pn ?_) | (with_reducible refine w_tg ?_) | (with_reducible refine w_ng ?_) | (with_reducible refine w_cn ?_) | (with_reducible refine w_cs ?_) | (with_reducible refine w_os ?_) | (with_reducible refine w_ov ?_) | ((with_reducible apply w_var); exact rfl) | ((with_reducible refine if_yes ?_ ?_); exact rfl) | ((with_reducible refine if_no ?_ ?_); exact rfl)))
local macro_rules | `(tactic| array_get_dec) => `(tactic| repeat (first | (with_reducible refine w_seq ?_) | (with_reducible refine w_set ?_) | (with_reducible refine w_asg ?_) | (with_reducible refine w_par ?_) | (with_reducible refine w_setsub ?_) | (with_reducible refine w_iff ?_) | (with_reducible refine w_ret ?_) | (with_reducible refine w_expr ?_) | (with_reducible refine w_end ?_) | (with_reducible refine w_con ?_) | (with_reducible refine w_bin ?_) | (with_reducible refine w_neg ?_) | (with_reducible refine w_cmp ?_) | (with_reducible refine w_chn ?_) | (with_reducible refine w_and ?_) | (with_reducible refine w_or ?_) | (with_reducible refine w_not ?_) | (with_reducible refine w_ite ?_) | (with_reducible refine w_sub ?_) | (with_reducible refine w_sli ?_) | (with_reducible refine w_rev ?_) | (with_reducible refine w_fld ?_) | (with_reducible refine w_call ?_) | (with_reducible refine w_bmt ?_) | (with_reducible refine w_blt ?_) | (with_reducible refine w_isi ?_) | (with_reducible refine w_lst ?_) | (with_reducible refine w_tup ?_) | (with_reducible refine w_nil ?_) | (with_reducible refine w_arg ?_) | (with_reducible refine w_star ?_) | (with_reducible refine w_tr ?_) | (with_reducible refine o_add ?_) | (with_reducible refine o_sub ?_) | (with_reducible refine o_mod (by omega) ?_) | (with_reducible refine o_div (by omega) (by omega) ?_) | (with_reducible refine b_int ?_) | (with_reducible refine b_abs ?_) | (with_reducible refine b_max ?_) | (with_reducible refine b_min ?_) | (with_reducible refine c_lt ?_) | (with_reducible refine c_le ?_) | (with_reducible refine c_gt ?_) | (with_reducible refine c_ge ?_) | (with_reducible refine e_int ?_) | (with_reducible refine e_str ?_) | (with_reducible refine n_int ?_) | (with_reducible refine n_str ?_) | (with_reducible refine l_tup ?_) | (with_reducible refine l_lsv ?_) | (with_reducible refine w_mth ?_) | (with_reducible refine is_str ?_) | (with_reducible refine u_tup ?_) | (with_reducible refine l_new ?_) | (with_reducible refine isN_non ?_) | (with_reducible refine notN_non ?_) | (with_reducible refine isN_tup ?_) | (with_reducible refine notN_tup ?_) | (with_reducible refine w_for ?_) | (with_reducible refine w_whl ?_) | (with_reducible refine w_ev ?_) | (with_reducible refine w_keys ?_) | (with_reducible refine w_rng ?_) | (with_reducible refine it_tup ?_) | (with_reducible refine w_dic ?_) | (with_reducible refine w_pc ?_) | (with_reducible refine w_pn ?_) | (with_reducible refine w_tg ?_) | (with_reducible refine w_ng ?_) | (with_reducible refine w_cn ?_) | (with_reducible refine w_cs ?_) | (with_reducible refine w_os ?_) | (with_reducible refine w_ov ?_) | ((with_reducible apply w_var); exact rfl) | ((with_reducible refine if_yes ?_ ?_); exact rfl) | ((with_reducible refine if_no ?_ ?_); exact rfl)))
/-! ### a reading -/
abbrev Line := Tx × Int × List Tx
structure Rs where
  ins : List Line
  outs : List Line
  steps : List (Tx × List (List Tx))
  leads : List (Int × Tx)
def Rs.placeV (R : Rs) : MV := match R.steps.getLast? with | none => .non | some e => .str e.1
abbrev leadV (l : Int × Tx) : MV := .tup [.int l.1, .str l.2]
def stpV (ss : List (Tx × List (List Tx))) (as : List Nat) : List (MV × MV) := List.zipWith (fun e a => (.str e.1, .ref a)) ss as
def tIN : Tx := [105, 110]
def tOUT : Tx := [111, 117, 116]
/-- where the reading's parts stand -/
structure RdA where
  r : Nat
  o : Nat
  li : Nat
  lo : Nat
  ds : Nat
  ld : Nat
  as : List Nat
def RdA.all (A : RdA) : List Nat := [A.r, A.o, A.li, A.lo, A.ds, A.ld] ++ A.as
structure RdAt (st : Sto) (A : RdA) (R : Rs) : Prop where
  ob : st[A.r]? = some (.ins "Reading" [("own_lines", .ref A.o), ("steps", .ref A.ds), ("place", R.placeV), ("leads", .ref A.ld)])
  ow : st[A.o]? = some (.dic false [(.str tIN, .ref A.li), (.str tOUT, .ref A.lo)])
  il : st[A.li]? = some (.lst (R.ins.map lineV))
  ol : st[A.lo]? = some (.lst (R.outs.map lineV))
  sl : st[A.ds]? = some (.dic false (stpV R.steps A.as))
  la : A.as.length = R.steps.length
  ea : ∀ (i : Nat) e a, R.steps[i]? = some e → A.as[i]? = some a → st[a]? = some (.lst (e.2.map stepV))
  dl : st[A.ld]? = some (.lst (R.leads.map leadV))
  nd : A.all.Nodup
theorem RdAt.keep {st st' : Sto} {A : RdA} {R : Rs} {W : List Nat} (h : RdAt st A R) (k : Keep W st st') (n : ∀ x ∈ A.all, x ∉ W) : RdAt st' A R := by
  refine ⟨k.at_ _ _ (n _ (by simp [RdA.all])) h.ob, k.at_ _ _ (n _ (by simp [RdA.all])) h.ow, k.at_ _ _ (n _ (by simp [RdA.all])) h.il, k.at_ _ _ (n _ (by simp [RdA.all])) h.ol, k.at_ _ _ (n _ (by simp [RdA.all])) h.sl, h.la, ?_, k.at_ _ _ (n _ (by simp [RdA.all])) h.dl, h.nd⟩
  intro i e a h1 h2
  refine k.at_ _ _ (n _ ?_) (h.ea i e a h1 h2)
  simp only [RdA.all, List.mem_append]
  exact .inr (List.mem_of_getElem? h2)
/-- the program's defs about reading -/
def d_names : IDef := ⟨1, 2, [
    .ret (.lc (.sub (.var 1) (.con (.int 0))) (.name 1) (.ev (.bin .add (.sub (.fld (.var 0) "own_lines") (.con (.str [105, 110]))) (.sub (.fld (.var 0) "own_lines") (.con (.str [111, 117, 116]))))) .non [1])]⟩
def d_is_line : IDef := ⟨2, 8, [
    .par [2, 3] (.cons (.sub (.var 1) (.con (.int 0))) (.cons (.sub (.fld (.var 0) "own_lines") (.sub (.var 1) (.con (.int 0)))) .nil)),
    .iff (.or (.cmp .notN (.fld (.var 0) "place") (.con .non)) (.ite (.cmp .eq (.var 2) (.con (.str [105, 110]))) (.cmp .ne (.sub (.fld (.var 0) "own_lines") (.con (.str [111, 117, 116]))) (.lst .nil)) (.cmp .eq (.sub (.fld (.var 0) "own_lines") (.con (.str [105, 110]))) (.lst .nil)))) [.ret (.con (.bl false))] [],
    .iff (.or (.cmp .eq (.blt .len (.cons (.var 3) .nil)) (.con (.int 3))) (.not (.chn .le .lt (.con (.int 4)) (.blt .len (.cons (.var 1) .nil)) (.bin .add (.con (.int 4)) (.con (.int 2)))))) [.ret (.con (.bl false))] [],
    .par [4, 5, 6] (.cons (.sub (.var 1) (.con (.int 1))) (.cons (.call "number_told" (.cons (.sub (.var 1) (.con (.int 2))) .nil)) (.cons (.blt .tuple (.cons (.sli (.var 1) (.som (.con (.int 3))) .non) .nil)) .nil))),
    .iff (.or (.not (.call "is_name" (.cons (.var 4) .nil))) (.or (.cmp .inn (.var 4) (.mth (.var 0) "names" .nil)) (.or (.cmp .isN (.var 5) (.con .non)) (.not (.chn .le .le (.con (.int 1)) (.var 5) (.con (.int 2))))))) [.ret (.con (.bl false))] [],
    .expr (.bmt (.var 3) .append (.cons (.tup (.cons (.var 4) (.cons (.var 5) (.cons (.var 6) .nil)))) .nil)),
    .ret (.and (.blt .all (.cons (.lc (.call "is_name" (.cons (.var 7) .nil)) (.name 7) (.ev (.var 6)) .non [7]) .nil)) (.call "are_unlike" (.cons (.var 6) .nil)))]⟩
def d_is_place : IDef := ⟨2, 2, [
    .iff (.or (.cmp .eq (.sub (.fld (.var 0) "own_lines") (.con (.str [111, 117, 116]))) (.lst .nil)) (.or (.cmp .ne (.blt .len (.cons (.var 1) .nil)) (.con (.int 2))) (.not (.call "is_name" (.cons (.sub (.var 1) (.con (.int 1))) .nil))))) [.ret (.con (.bl false))] [],
    .iff (.or (.cmp .inn (.sub (.var 1) (.con (.int 1))) (.fld (.var 0) "steps")) (.cmp .eq (.blt .len (.cons (.fld (.var 0) "steps") .nil)) (.con (.int 40)))) [.ret (.con (.bl false))] [],
    .setfld (.var 0) "place" (.sub (.var 1) (.con (.int 1))),
    .setsub (.fld (.var 0) "steps") (.fld (.var 0) "place") (.lst .nil),
    .ret (.con (.bl true))]⟩
def d_is_step : IDef := ⟨3, 4, [
    .asg (.name 3) (.blt .tuple (.cons (.var 2) .nil)),
    .iff (.or (.cmp .isN (.fld (.var 0) "place") (.con .non)) (.or (.not (.mth (.var 0) "is_formed" (.cons (.var 3) .nil))) (.cmp .inn (.var 3) (.sub (.fld (.var 0) "steps") (.fld (.var 0) "place"))))) [.ret (.con (.bl false))] [],
    .iff (.cmp .eq (.blt .len (.cons (.fld (.var 0) "leads") .nil)) (.con (.int 80))) [.ret (.con (.bl false))] [],
    .expr (.bmt (.sub (.fld (.var 0) "steps") (.fld (.var 0) "place")) .append (.cons (.var 3) .nil)),
    .expr (.bmt (.fld (.var 0) "leads") .append (.cons (.tup (.cons (.var 1) (.cons (.sub (.var 3) (.neg (.con (.int 1)))) .nil))) .nil)),
    .ret (.con (.bl true))]⟩
def d_is_formed : IDef := ⟨2, 4, [
    .iff (.or (.cmp .ne (.blt .len (.cons (.var 1) .nil)) (.ite (.cmp .eq (.sub (.var 1) (.con (.int 0))) (.con (.str [116, 117, 114, 110]))) (.con (.int 2)) (.con (.int 4)))) (.not (.call "is_name" (.cons (.sub (.var 1) (.neg (.con (.int 1)))) .nil)))) [.ret (.con (.bl false))] [],
    .asg (.name 2) (.ite (.cmp .eq (.sub (.var 1) (.con (.int 0))) (.con (.str [116, 97, 107, 101]))) (.sub (.fld (.var 0) "own_lines") (.con (.str [105, 110]))) (.sub (.fld (.var 0) "own_lines") (.con (.str [111, 117, 116])))),
    .ret (.or (.cmp .eq (.sub (.var 1) (.con (.int 0))) (.con (.str [116, 117, 114, 110]))) (.blt .any (.cons (.lc (.and (.cmp .eq (.sub (.var 3) (.con (.int 0))) (.sub (.var 1) (.con (.int 1)))) (.cmp .inn (.sub (.var 1) (.con (.int 2))) (.sub (.var 3) (.con (.int 2))))) (.name 3) (.ev (.var 2)) .non [3]) .nil)))]⟩
def d_is_taken : IDef := ⟨3, 4, [
    .asg (.name 3) (.bmt (.var 2) .split (.cons (.con (.str [32])) .nil)),
    .iff (.cmp .inn (.sub (.var 3) (.con (.int 0))) (.tup (.cons (.con (.str [105, 110])) (.cons (.con (.str [111, 117, 116])) .nil)))) [.ret (.mth (.var 0) "is_line" (.cons (.var 3) .nil))] [],
    .iff (.cmp .eq (.sub (.var 3) (.con (.int 0))) (.con (.str [97, 116]))) [.ret (.mth (.var 0) "is_place" (.cons (.var 3) .nil))] [],
    .ret (.and (.cmp .inn (.sub (.var 3) (.con (.int 0))) (.tup (.cons (.con (.str [116, 97, 107, 101])) (.cons (.con (.str [112, 117, 116])) (.cons (.con (.str [116, 117, 114, 110])) .nil))))) (.mth (.var 0) "is_step" (.cons (.var 1) (.cons (.var 3) .nil))))]⟩
def d_reading : IDef := ⟨1, 1, [
    .setfld (.var 0) "own_lines" (.dic (.cons (.con (.str [105, 110])) (.lst .nil) (.cons (.con (.str [111, 117, 116])) (.lst .nil) .nil))),
    .setfld (.var 0) "steps" (.dic .nil),
    .setfld (.var 0) "place" (.con .non),
    .setfld (.var 0) "leads" (.lst .nil)]⟩
def d_read_lines : IDef := ⟨1, 7, [
    .iff (.not (.isi (.var 0) .str)) [.bad] [],
    .par [1, 2] (.cons (.new "Reading" .nil) (.cons (.bmt (.var 0) .split (.cons (.con (.str [10])) .nil)) .nil)),
    .for_ (.tup [3, 4]) (.enu (.var 2)) [.iff (.not (.mth (.var 1) "is_taken" (.cons (.bin .add (.var 3) (.con (.int 1))) (.cons (.var 4) .nil)))) [.bad] []],
    .iff (.cmp .eq (.fld (.var 1) "steps") (.dic .nil)) [.bad] [],
    .for_ (.tup [5, 6]) (.ev (.fld (.var 1) "leads")) [.iff (.cmp .nin (.var 6) (.fld (.var 1) "steps")) [.bad] []],
    .ret (.var 1)]⟩
structure HasRead (P : Prog) : Prop where
  nm : P.df "is_name" = some d_is_name
  ul : P.df "are_unlike" = some d_are_unlike
  nt : P.df "number_told" = some d_number_told
  ns : P.df "Reading.names" = some d_names
  il : P.df "Reading.is_line" = some d_is_line
  ip : P.df "Reading.is_place" = some d_is_place
  is : P.df "Reading.is_step" = some d_is_step
  fm : P.df "Reading.is_formed" = some d_is_formed
  tk : P.df "Reading.is_taken" = some d_is_taken
  rd : P.df "Reading.__init__" = some d_reading
  rl : P.df "read_lines" = some d_read_lines
  mns : P.mt "Reading" "names" = some "Reading.names"
  mil : P.mt "Reading" "is_line" = some "Reading.is_line"
  mip : P.mt "Reading" "is_place" = some "Reading.is_place"
  mis : P.mt "Reading" "is_step" = some "Reading.is_step"
  mfm : P.mt "Reading" "is_formed" = some "Reading.is_formed"
  mtk : P.mt "Reading" "is_taken" = some "Reading.is_taken"
  mrd : P.mt "Reading" "__init__" = some "Reading.__init__"
  pow : P.pr "Reading" "own_lines" = some none
  pst : P.pr "Reading" "steps" = some none
  ppl : P.pr "Reading" "place" = some none
  pld : P.pr "Reading" "leads" = some none
def lineD (l : Line) : PD := .tup [.str l.1, .int l.2.1, .tup (l.2.2.map .str)]
theorem lines_pd {st : Sto} : ∀ ls : List Line, (ls.map lineV).mapM (toPD 29 st) = some (ls.map lineD)
  | [] => rfl
  | l :: ls => by
    rw [List.map_cons, List.mapM_cons, lines_pd ls]
    have : toPD 29 st (lineV l) = some (lineD l) := by
      simp only [lineV, toPD, List.mapM_cons, List.mapM_nil]
      have h : (l.2.2.map MV.str).mapM (toPD 27 st) = some (l.2.2.map PD.str) := by
        generalize l.2.2 = ws
        induction ws with
        | nil => rfl
        | cons w ws ih => rw [List.map_cons, List.mapM_cons, ih]; rfl
      rw [h]
      rfl
    rw [this]
    rfl
def okLine (l : Line) : Prop := okTx l.1 ∧ ∀ w ∈ l.2.2, okTx w
theorem tx_fine {w : Tx} (h : okTx w) : PD.fine (.str w) = true := by
  show w.all _ = true
  rw [List.all_eq_true]
  exact fun c hc => decide_eq_true (h c hc)
theorem lines_fine : ∀ ls : List Line, (∀ l ∈ ls, okLine l) → PD.fineAll (ls.map lineD) = true
  | [], _ => rfl
  | l :: ls, h => by
    show (PD.fine (lineD l) && PD.fineAll (ls.map lineD)) = true
    rw [lines_fine ls fun x hx => h x (List.mem_cons_of_mem _ hx), Bool.and_true]
    obtain ⟨a, b⟩ := h l List.mem_cons_self
    show (PD.fine (.str l.1) && (true && (PD.fineAll (l.2.2.map .str) && true))) = true
    rw [tx_fine a, strs_fine _ b]
    rfl
theorem ne_void {st : Sto} {p q : Nat} {xs : List MV} {ds : List PD} {Q : Bool → Sto → Prop} (hp : st[p]? = some (.lst xs)) (hq : st[q]? = some (.lst [])) (hd : xs.mapM (toPD 29 st) = some ds) (ok : PD.fineAll ds = true) (h : Q (!ds.isEmpty) st) : opCmp .ne (.ref p) (.ref q) st Q := by
  refine .inl ⟨.lst ds, .lst [], ?_, ?_, .inr ⟨ok, rfl⟩, ?_⟩
  · simp only [toPD, hp, hd]; rfl
  · simp only [toPD, hq]; rfl
  · cases ds with
    | nil => exact h
    | cons w ws => exact h
theorem eq_void {st : Sto} {p q : Nat} {xs : List MV} {ds : List PD} {Q : Bool → Sto → Prop} (hp : st[p]? = some (.lst xs)) (hq : st[q]? = some (.lst [])) (hd : xs.mapM (toPD 29 st) = some ds) (ok : PD.fineAll ds = true) (h : Q ds.isEmpty st) : opCmp .eq (.ref p) (.ref q) st Q := by
  refine .inl ⟨.lst ds, .lst [], ?_, ?_, .inr ⟨ok, rfl⟩, ?_⟩
  · simp only [toPD, hp, hd]; rfl
  · simp only [toPD, hq]; rfl
  · cases ds with
    | nil => exact h
    | cons w ws => exact h
theorem isN_any {x : MV} {st : Sto} {Q : Bool → Sto → Prop} (q : Q (match x with | .non => true | _ => false) st) : opCmp .isN x .non st Q := ⟨rfl, q⟩
theorem notN_any {x : MV} {st : Sto} {Q : Bool → Sto → Prop} (q : Q (match x with | .non => false | _ => true) st) : opCmp .notN x .non st Q := ⟨rfl, q⟩
theorem o_addl {st : Sto} {Q : Post} {a b : Nat} {xs ys : List MV} (ha : st[a]? = some (.lst xs)) (hb : st[b]? = some (.lst ys)) (hl : xs.length + ys.length ≤ big) (q : Q (.ref st.length) (st ++ [.lst (xs ++ ys)])) : opBin .add (.ref a) (.ref b) st Q := ⟨xs, ys, ha, hb, hl, q⟩
section
variable {P : Prog} (B : HasRead P) {k : Nat} {st : Sto} {A : RdA} {R : Rs} {Q : Post} {X : Xp} (h : RdAt st A R)
include B h
theorem names_ok (hk : 1 ≤ k) (hl : R.ins.length ≤ 3 ∧ R.outs.length ≤ 3) (q : ∀ st' p, Keep [] st st' → st'[p]? = some (.lst (((R.ins ++ R.outs).map (·.1)).map .str)) → Q (.ref p) st') : sem P k "Reading.names" [.ref A.r] st Q X := by
  refine sem_go (by omega) B.ns rfl ?_
  show wpSs P _ [_] _ [some (.ref A.r), none] st
  decreasing_trivial_pre_omega
  refine f_at h.ob B.pow rfl ?_
  decreasing_trivial_pre_omega
  refine g_dic h.ow rfl rfl ?_
  decreasing_trivial_pre_omega
  refine f_at h.ob B.pow rfl ?_
  decreasing_trivial_pre_omega
  refine g_dic h.ow rfl rfl ?_
  refine o_addl h.il h.ol (by simp [big]; omega) ?_
  refine it_lst get_new ⟨by simp [big]; omega, ?_⟩
  rw [← List.map_append]
  generalize hS : st ++ [MO.lst ((R.ins ++ R.outs).map lineV)] = S
  have kS : Keep [] st S := by rw [← hS]; exact Keep.app _ _ _
  have hp : S[st.length]? = some (.lst ((R.ins ++ R.outs).map lineV)) := by rw [← hS]; exact get_new
  refine loop_go (fun pre acc st' => st' = S ∧ ∃ pl : List Line, pre = pl.map lineV ∧ acc = (pl.map (·.1)).map MV.str) ⟨rfl, [], rfl, rfl⟩ (fun _ _ _ e => by rw [e.1]; exact hp) ?_ ?_
  · rintro pre x r acc st' kk e ⟨rfl, pl, rfl, rfl⟩ hkk
    obtain ⟨l, _, rfl⟩ := item_at e
    decreasing_trivial_pre_omega
    refine g_tup (by rfl) ?_
    exact hkk _ _ ⟨rfl, pl ++ [l], by simp, by simp⟩
  · rintro acc st' ⟨rfl, pl, e, rfl⟩
    have e : R.ins ++ R.outs = pl := by
      have h := congrArg (List.map fun (m : MV) => match m with | MV.tup [MV.str a, MV.int b, MV.tup ws] => (a, b, ws.map fun (w : MV) => match w with | MV.str t => t | _ => []) | _ => ([], 0, [])) (show (R.ins ++ R.outs).map lineV = pl.map lineV from e)
      simpa [List.map_map, Function.comp_def] using h
    subst e
    exact q _ _ (kS.trans (Keep.app [] _ _)) get_new
end
end Mi
-- B13
namespace Mi
local macro_rules | `(tactic| decreasing_trivial_pre_omega) => `(tactic| repeat (first | (with_reducible refine w_seq ?_) | (with_reducible refine w_set ?_) | (with_reducible refine w_asg ?_) | (with_reducible refine w_par ?_) | (with_reducible refine w_setsub ?_) | (with_reducible refine w_iff ?_) | (with_reducible refine w_ret ?_) | (with_reducible refine w_expr ?_) | (with_reducible refine w_end ?_) | (with_reducible refine w_con ?_) | (with_reducible refine w_bin ?_) | (with_reducible refine w_neg ?_) | (with_reducible refine w_cmp ?_) | (with_reducible refine w_chn ?_) | (with_reducible refine w_and ?_) | (with_reducible refine w_or ?_) | (with_reducible refine w_not ?_) | (with_reducible refine w_ite ?_) | (with_reducible refine w_sub ?_) | (with_reducible refine w_sli ?_) | (with_reducible refine w_rev ?_) | (with_reducible refine w_fld ?_) | (with_reducible refine w_call ?_) | (with_reducible refine w_bmt ?_) | (with_reducible refine w_blt ?_) | (with_reducible refine w_isi ?_) | (with_reducible refine w_lst ?_) | (with_reducible refine w_tup ?_) | (with_reducible refine w_nil ?_) | (with_reducible refine w_arg ?_) | (with_reducible refine w_star ?_) | (with_reducible refine w_tr ?_) | (with_reducible refine o_add ?_) | (with_reducible refine o_sub ?_) | (with_reducible refine o_mod (by omega) ?_) | (with_reducible refine o_div (by omega) (by omega) ?_) | (with_reducible refine b_int ?_) | (with_reducible refine b_abs ?_) | (with_reducible refine b_max ?_) | (with_reducible refine b_min ?_) | (with_reducible refine c_lt ?_) | (with_reducible refine c_le ?_) | (with_reducible refine c_gt ?_) | (with_reducible refine c_ge ?_) | (with_reducible refine e_int ?_) | (with_reducible refine e_str ?_) | (with_reducible refine n_int ?_) | (with_reducible refine n_str ?_) | (with_reducible refine l_tup ?_) | (with_reducible refine l_lsv ?_) | (with_reducible refine w_mth ?_) | (with_reducible refine is_str ?_) | (with_reducible refine u_tup ?_) | (with_reducible refine l_new ?_) | (with_reducible refine isN_non ?_) | (with_reducible refine notN_non ?_) | (with_reducible refine isN_tup ?_) | (with_reducible refine notN_tup ?_) | (with_reducible refine w_for ?_) | (with_reducible refine w_whl ?_) | (with_reducible refine w_ev ?_) | (with_reducible refine w_keys ?_) | (with_reducible refine w_rng ?_) | (with_reducible refine it_tup ?_) | (with_reducible refine w_lc ?_) | (with_reducible refine w_dic ?_) | (with_reducible refine w_pc ?_) | (with_reducible refine w_pn ?_) | (with_reducible refine w_tg ?_) | (with_reducible refine w_ng ?_) | (with_reducible refine w_cn ?_) | (with_reducible refine w_cs ?_) | (with_reducible refine w_os ?_) | (with_reducible refine w_ov ?_) | ((with_reducible apply w_var); exact rfl) | ((with_reducible refine if_yes ?_ ?_); exact rfl) | ((with_reducible refine if_no ?_ ?_); exact rfl)))
local macro_rules | `(tactic| array_get_dec) => `(tactic| repeat (first | (with_reducible refine w_seq ?_) | (with_reducible refine w_set ?_) | (with_reducible refine w_asg ?_) | (with_reducible refine w_par ?_) | (with_reducible refine w_setsub ?_) | (with_reducible refine w_iff ?_) | (with_reducible refine w_ret ?_) | (with_reducible refine w_expr ?_) | (with_reducible refine w_end ?_) | (with_reducible refine w_con ?_) | (with_reducible refine w_bin ?_) | (with_reducible refine w_neg ?_) | (with_reducible refine w_cmp ?_) | (with_reducible refine w_chn ?_) | (with_reducible refine w_and ?_) | (with_reducible refine w_or ?_) | (with_reducible refine w_not ?_) | (with_reducible refine w_ite ?_) | (with_reducible refine w_sub ?_) | (with_reducible refine w_sli ?_) | (with_reducible refine w_rev ?_) | (with_reducible refine w_fld ?_) | (with_reducible refine w_call ?_) | (with_reducible refine w_bmt ?_) | (with_reducible refine w_blt ?_) | (with_reducible refine w_isi ?_) | (with_reducible refine w_lst ?_) | (with_reducible refine w_tup ?_) | (with_reducible refine w_nil ?_) | (with_reducible refine w_arg ?_) | (with_reducible refine w_star ?_) | (with_reducible refine w_tr ?_) | (with_reducible refine o_add ?_) | (with_reducible refine o_sub ?_) | (with_reducible refine o_mod (by omega) ?_) | (with_reducible refine o_div (by omega) (by omega) ?_) | (with_reducible refine b_int ?_) | (with_reducible refine b_abs ?_) | (with_reducible refine b_max ?_) | (with_reducible refine b_min ?_) | (with_reducible refine c_lt ?_) | (with_reducible refine c_le ?_) | (with_reducible refine c_gt ?_) | (with_reducible refine c_ge ?_) | (with_reducible refine e_int ?_) | (with_reducible refine e_str ?_) | (with_reducible refine n_int ?_) | (with_reducible refine n_str ?_) | (with_reducible refine l_tup ?_) | (with_reducible refine l_lsv ?_) | (with_reducible refine w_mth ?_) | (with_reducible refine is_str ?_) | (with_reducible refine u_tup ?_) | (with_reducible refine l_new ?_) | (with_reducible refine isN_non ?_) | (with_reducible refine notN_non ?_) | (with_reducible refine isN_tup ?_) | (with_reducible refine notN_tup ?_) | (with_reducible refine w_for ?_) | (with_reducible refine w_whl ?_) | (with_reducible refine w_ev ?_) | (with_reducible refine w_keys ?_) | (with_reducible refine w_rng ?_) | (with_reducible refine it_tup ?_) | (with_reducible refine w_dic ?_) | (with_reducible refine w_pc ?_) | (with_reducible refine w_pn ?_) | (with_reducible refine w_tg ?_) | (with_reducible refine w_ng ?_) | (with_reducible refine w_cn ?_) | (with_reducible refine w_cs ?_) | (with_reducible refine w_os ?_) | (with_reducible refine w_ov ?_) | ((with_reducible apply w_var); exact rfl) | ((with_reducible refine if_yes ?_ ?_); exact rfl) | ((with_reducible refine if_no ?_ ?_); exact rfl)))
theorem at_n (i : Nat) {xs : List MV} {v : MV} (h : xs[i]? = some v) : (ixOf xs.length (i : Int)).bind (xs[·]?) = some v := by
  rw [ix_nat (List.getElem?_eq_some_iff.mp h).1]
  exact h
theorem sli_lst {p : Nat} {xs : List MV} {lo hi : Option Int} {st : Sto} {Q : Post} (h : st[p]? = some (.lst xs)) (q : Q (.ref st.length) (st ++ [.lst (cut xs lo hi)])) : opSli (.ref p) lo hi st Q := by simp only [opSli, h]; exact q
theorem cut3 {a b c : MV} {xs : List MV} : cut (a :: b :: c :: xs) (some 3) none = xs := by
  have h : sIx (a :: b :: c :: xs).length 0 (some 3) = 3 := by
    show (if (3 : Int) < 0 then ((3 : Int) + ((a :: b :: c :: xs).length : Int)).toNat else min 3 (a :: b :: c :: xs).length) = 3
    rw [if_neg (by decide)]
    simp only [List.length_cons]
    omega
  unfold cut
  rw [h]
  show List.take ((a :: b :: c :: xs).length - 3) xs = xs
  exact List.take_of_length_le (by simp)
theorem nm_ok {w : Tx} (h : nmB w = true) : okTx w := by
  unfold nmB at h
  simp only [Bool.and_eq_true, decide_eq_true_eq, List.all_eq_true] at h
  intro c hc
  have := h.2 c hc
  simp [lowers] at this
  omega
theorem nm_len {w : Tx} (h : nmB w = true) : 1 ≤ w.length ∧ w.length ≤ 8 := by
  unfold nmB at h
  simp only [Bool.and_eq_true, decide_eq_true_eq] at h
  exact h.1
theorem RdAt.setLi {st : Sto} {A : RdA} {R : Rs} (h : RdAt st A R) (l : Line) : RdAt (st.set A.li (.lst (R.ins.map lineV ++ [lineV l]))) A { R with ins := R.ins ++ [l] } := by
  have nd := h.nd
  simp only [RdA.all, List.cons_append, List.nil_append, List.nodup_cons, List.mem_cons, not_or] at nd
  obtain ⟨⟨_, a1, _⟩, ⟨a2, _⟩, ⟨b1, b2, b3, b4⟩, _⟩ := nd
  refine ⟨get_other (fun e => a1 e.symm) h.ob, get_other (fun e => a2 e.symm) h.ow, by rw [get_set h.il]; simp, get_other b1 h.ol, get_other b2 h.sl, h.la, fun i e a h1 h2 => get_other (fun z => b4 (z ▸ List.mem_of_getElem? h2)) (h.ea i e a h1 h2), get_other b3 h.dl, h.nd⟩
theorem RdAt.setLo {st : Sto} {A : RdA} {R : Rs} (h : RdAt st A R) (l : Line) : RdAt (st.set A.lo (.lst (R.outs.map lineV ++ [lineV l]))) A { R with outs := R.outs ++ [l] } := by
  have nd := h.nd
  simp only [RdA.all, List.cons_append, List.nil_append, List.nodup_cons, List.mem_cons, not_or] at nd
  obtain ⟨⟨_, _, a1, _⟩, ⟨_, a2, _⟩, ⟨a3, _⟩, ⟨b2, b3, b4⟩, _⟩ := nd
  refine ⟨get_other (fun e => a1 e.symm) h.ob, get_other (fun e => a2 e.symm) h.ow, get_other (fun e => a3 e.symm) h.il, by rw [get_set h.ol]; simp, get_other b2 h.sl, h.la, fun i e a h1 h2 => get_other (fun z => b4 (z ▸ List.mem_of_getElem? h2)) (h.ea i e a h1 h2), get_other b3 h.dl, h.nd⟩
section
variable {P : Prog} (B : HasRead P) {k : Nat} {st : Sto} {Q : Post} {X : Xp}
include B
/-- are all of ws names -/
theorem names_all {F : Phi} {σ : Env} {ws : List Tx} {i j : Nat} (hF : F = sem P k) (hk : 1 ≤ k) (hw : σ[i]? = some (some (.tup (ws.map .str)))) (hij : j < σ.length) (hl : ws.length < big) (hn : ∀ w ∈ ws, nmB w = true)
    (q : ∀ st' p, Keep [] st st' → st'[p]? = some (.lst ((ws.map fun _ => true).map .bl)) → Q (.ref p) st') : wpE P F (.lc (.call "is_name" (.cons (.var j) .nil)) (.name j) (.ev (.var i)) .non [j]) σ st Q X := by
  subst hF
  refine w_lc (w_ev (w_var hw ?_))
  refine it_tup ⟨by simpa using hl, ?_⟩
  refine loop_go (fun pre acc st' => Keep [] st st' ∧ acc = pre.map fun _ => .bl true) ⟨Keep.refl _ _, rfl⟩ (fun _ _ _ _ => True.intro) ?_ ?_
  · rintro pre x r acc st' kk e ⟨k1, rfl⟩ hkk
    obtain ⟨w, hw, rfl⟩ := item_at (show ws.map MV.str = pre ++ x :: r from e)
    have hw := hn w (List.mem_of_getElem? hw)
    decreasing_trivial_pre_omega
    refine w_var (v := .str w) (by simp [wipeE, hij]) ?_
    decreasing_trivial_pre_omega
    refine is_name_ok B.nm hk (by have := nm_len hw; simp [big]; omega) fun st2 k2 => ?_
    rw [hw]
    exact hkk _ _ ⟨k1.trans k2, by simp⟩
  · rintro acc st' ⟨k1, rfl⟩
    refine q _ _ (k1.trans (Keep.app [] _ _)) ?_
    rw [get_new]
    simp [List.map_map, Function.comp_def]
variable {A : RdA} {R : Rs} (h : RdAt st A R)
include h
/-- what may be changed -/
abbrev RdPost (A : RdA) (st : Sto) (R' : Rs) (q : RdA → Sto → Prop) : Prop := ∀ A' st', A'.r = A.r → RdAt st' A' R' → Keep A.all st st' → (∀ a ∈ A'.all, a ∈ A.all ∨ st.length ≤ a) → q A' st'
theorem is_line_ok (hk : 3 ≤ k) (isIn : Bool) {wl : Nat} {n : Nat} {name : Tx} {worths : List Tx} (hwl : wl ∉ A.all) (hw : st[wl]? = some (.lst (((if isIn then tIN else tOUT) :: name :: [48 + n] :: worths).map .str)))
    (hs : R.steps = []) (h1 : isIn = true → R.outs = []) (h2 : isIn = false → R.ins ≠ []) (hl : R.ins.length ≤ 3 ∧ R.outs.length ≤ 3) (hl2 : (if isIn then R.ins else R.outs).length < 3) (ok : ∀ l ∈ R.ins ++ R.outs, okLine l)
    (hn : nmB name = true) (hnew : name ∉ (R.ins ++ R.outs).map (·.1)) (hwt : 1 ≤ n ∧ n ≤ 2) (hwo : 1 ≤ worths.length ∧ worths.length ≤ 2) (hwn : ∀ w ∈ worths, nmB w = true) (hwd : worths.Nodup)
    (q : RdPost A st (if isIn then { R with ins := R.ins ++ [(name, (n : Int), worths)] } else { R with outs := R.outs ++ [(name, (n : Int), worths)] }) fun _ st' => Q (.bl true) st') : sem P k "Reading.is_line" [.ref A.r, .ref wl] st Q X := by
  refine sem_go (by omega) B.il rfl ?_
  show wpSs P _ [_, _, _, _, _, _, _] _ [some (.ref A.r), some (.ref wl), none, none, none, none, none, none] st
  have hpl : R.placeV = .non := by simp [Rs.placeV, hs]
  have nd := h.nd
  simp only [RdA.all, List.cons_append, List.nil_append, List.nodup_cons, List.mem_cons, not_or] at nd
  have okI : PD.fineAll (R.ins.map lineD) = true := lines_fine _ fun l hl => ok l (List.mem_append_left _ hl)
  have okO : PD.fineAll (R.outs.map lineD) = true := lines_fine _ fun l hl => ok l (List.mem_append_right _ hl)
  have hob := h.ob
  rw [hpl] at hob
  decreasing_trivial_pre_omega
  refine g_lst hw (at_n 0 rfl) ?_
  decreasing_trivial_pre_omega
  refine f_at h.ob B.pow rfl ?_
  decreasing_trivial_pre_omega
  refine g_lst hw (at_n 0 rfl) ?_
  refine g_dic (v := .ref (if isIn then A.li else A.lo)) h.ow rfl (by cases isIn <;> rfl) ?_
  decreasing_trivial_pre_omega
  refine ⟨rfl, ?_⟩
  decreasing_trivial_pre_omega
  refine f_at hob B.ppl rfl ?_
  decreasing_trivial_pre_omega
  have hown : st[if isIn then A.li else A.lo]? = some (.lst ((if isIn then R.ins else R.outs).map lineV)) := by cases isIn; exact h.ol; exact h.il
  have hwin : (if isIn then A.li else A.lo) ∈ A.all := by cases isIn <;> simp [RdA.all]
  generalize hS : st ++ [MO.lst []] = S
  have kS : Keep [] st S := by rw [← hS]; exact Keep.app _ _ _
  have hv : S[st.length]? = some (.lst []) := by rw [← hS]; exact get_new
  have hS2 : RdAt S A R := h.keep kS (by simp)
  have hwS := kS.at_ _ _ (by simp) hw
  have hoS := kS.at_ _ _ (by simp) hown
  cases isIn
  case' false =>
    decreasing_trivial_pre_omega
    refine f_at h.ob B.pow rfl ?_
    decreasing_trivial_pre_omega
    refine g_dic h.ow rfl rfl ?_
    decreasing_trivial_pre_omega
    refine ⟨by simp [big], ?_⟩
    rw [hS]
    refine eq_void hS2.il hv (lines_pd _) okI ?_
    have : (R.ins.map lineD).isEmpty = false := by
      have := h2 rfl
      cases hh : R.ins with
      | nil => exact absurd hh this
      | cons a r => rfl
    rw [this]
    decreasing_trivial_pre_omega
  case' true =>
    decreasing_trivial_pre_omega
    refine f_at h.ob B.pow rfl ?_
    decreasing_trivial_pre_omega
    refine g_dic h.ow rfl rfl ?_
    decreasing_trivial_pre_omega
    refine ⟨by simp [big], ?_⟩
    rw [hS]
    refine ne_void hS2.ol hv (lines_pd _) okO ?_
    rw [h1 rfl]
    decreasing_trivial_pre_omega
  all_goals
    refine l_lst hoS ?_
    decreasing_trivial_pre_omega
    refine if_no (by simp at hl2 ⊢; omega) ?_
    decreasing_trivial_pre_omega
    refine l_lst hwS ?_
    decreasing_trivial_pre_omega
    refine if_yes (by simp; omega) ?_
    decreasing_trivial_pre_omega
    refine if_no (by simp; omega) ?_
    decreasing_trivial_pre_omega
    refine g_lst hwS (at_n 1 rfl) ?_
    decreasing_trivial_pre_omega
    refine g_lst hwS (at_n 2 rfl) ?_
    decreasing_trivial_pre_omega
    refine number_ok B.nt (by omega) (by omega) fun st1 k1 => ?_
    have kS1 := kS.trans k1
    have h1' : RdAt st1 A R := h.keep kS1 (by simp)
    have hw1 := k1.at_ _ _ (by simp) hwS
    have ho1 := k1.at_ _ _ (by simp) hoS
    decreasing_trivial_pre_omega
    refine sli_lst hw1 ?_
    decreasing_trivial_pre_omega
    refine u_lst get_new ?_
    decreasing_trivial_pre_omega
    refine ⟨rfl, ?_⟩
    rw [show ∀ kd : Tx, cut ((kd :: name :: [48 + n] :: worths).map MV.str) (some 3) none = worths.map .str from fun kd => cut3]
    generalize hT : st1 ++ [MO.lst (worths.map MV.str)] = T
    have kT : Keep [] st T := by rw [← hT]; exact kS1.trans (Keep.app _ _ _)
    decreasing_trivial_pre_omega
    refine is_name_ok B.nm (by omega) (by have := nm_len hn; simp [big]; omega) fun st2 k2 => ?_
    rw [hn]
    decreasing_trivial_pre_omega
    have kT2 := kT.trans k2
    have h2' : RdAt st2 A R := h.keep kT2 (by simp)
    refine w_gm h2'.ob rfl B.mns ?_
    decreasing_trivial_pre_omega
    refine names_ok B h2' (by omega) hl fun st3 p k3 hp => ?_
    refine in_strs hp ?_
    rw [decide_eq_false hnew]
    decreasing_trivial_pre_omega
    refine isN_any ?_
    decreasing_trivial_pre_omega
    rw [decide_eq_true (show (1 : Int) ≤ n by omega)]
    decreasing_trivial_pre_omega
    rw [decide_eq_true (show (n : Int) ≤ 2 by omega)]
    decreasing_trivial_pre_omega
    have kT3 := kT2.trans k3
    have h3' : RdAt st3 A R := h.keep kT3 (by simp)
    have ho3 := kT3.at_ _ _ (by simp) hown
    refine ⟨bt_lst ho3 rfl, ?_⟩
    decreasing_trivial_pre_omega
    refine ⟨by simp [big], ?_⟩
    decreasing_trivial_pre_omega
    refine m_app ho3 (by simp [big] at hl2 ⊢; omega) ?_
    array_get_dec
    refine names_all B rfl (by omega) rfl (Nat.lt_succ_self 7) (by simp [big]; omega) hwn fun st5 p5 k5 hp5 => ?_
    array_get_dec
    refine b_all hp5 ?_
    rw [show (worths.map fun _ => true).all id = true by simp]
    decreasing_trivial_pre_omega
    refine unlike_ok B.ul (by omega) hwd (by simp [big]; omega) fun st6 k6 => ?_
    have hfin := q A _ rfl (((by first | exact h3'.setLo (name, (n : Int), worths) | exact h3'.setLi (name, (n : Int), worths) : RdAt _ A _).keep k5 (by simp)).keep k6 (by simp))
      ((((kT3.mono (by simp)).trans (Keep.set _ (by simp [RdA.all]))).trans (k5.mono (by simp))).trans (k6.mono (by simp))) (fun a ha => .inl ha)
    simpa using hfin
end
end Mi
-- B14
namespace Mi
local macro_rules | `(tactic| decreasing_trivial_pre_omega) => `(tactic| repeat (first | (with_reducible refine w_seq ?_) | (with_reducible refine w_set ?_) | (with_reducible refine w_asg ?_) | (with_reducible refine w_par ?_) | (with_reducible refine w_setsub ?_) | (with_reducible refine w_iff ?_) | (with_reducible refine w_ret ?_) | (with_reducible refine w_expr ?_) | (with_reducible refine w_end ?_) | (with_reducible refine w_con ?_) | (with_reducible refine w_bin ?_) | (with_reducible refine w_neg ?_) | (with_reducible refine w_cmp ?_) | (with_reducible refine w_chn ?_) | (with_reducible refine w_and ?_) | (with_reducible refine w_or ?_) | (with_reducible refine w_not ?_) | (with_reducible refine w_ite ?_) | (with_reducible refine w_sub ?_) | (with_reducible refine w_sli ?_) | (with_reducible refine w_rev ?_) | (with_reducible refine w_fld ?_) | (with_reducible refine w_call ?_) | (with_reducible refine w_bmt ?_) | (with_reducible refine w_blt ?_) | (with_reducible refine w_isi ?_) | (with_reducible refine w_lst ?_) | (with_reducible refine w_tup ?_) | (with_reducible refine w_nil ?_) | (with_reducible refine w_arg ?_) | (with_reducible refine w_star ?_) | (with_reducible refine w_tr ?_) | (with_reducible refine o_add ?_) | (with_reducible refine o_sub ?_) | (with_reducible refine o_mod (by omega) ?_) | (with_reducible refine o_div (by omega) (by omega) ?_) | (with_reducible refine b_int ?_) | (with_reducible refine b_abs ?_) | (with_reducible refine b_max ?_) | (with_reducible refine b_min ?_) | (with_reducible refine c_lt ?_) | (with_reducible refine c_le ?_) | (with_reducible refine c_gt ?_) | (with_reducible refine c_ge ?_) | (with_reducible refine e_int ?_) | (with_reducible refine e_str ?_) | (with_reducible refine n_int ?_) | (with_reducible refine n_str ?_) | (with_reducible refine l_tup ?_) | (with_reducible refine l_lsv ?_) | (with_reducible refine w_mth ?_) | (with_reducible refine is_str ?_) | (with_reducible refine u_tup ?_) | (with_reducible refine l_new ?_) | (with_reducible refine isN_non ?_) | (with_reducible refine notN_non ?_) | (with_reducible refine isN_tup ?_) | (with_reducible refine notN_tup ?_) | (with_reducible refine w_for ?_) | (with_reducible refine w_whl ?_) | (with_reducible refine w_ev ?_) | (with_reducible refine w_keys ?_) | (with_reducible refine w_rng ?_) | (with_reducible refine it_tup ?_) | (with_reducible refine w_lc ?_) | (with_reducible refine w_dic ?_) | (with_reducible refine w_pc ?_) | (with_reducible refine w_pn ?_) | (with_reducible refine w_tg ?_) | (with_reducible refine w_ng ?_) | (with_reducible refine w_cn ?_) | (with_reducible refine w_cs ?_) | (with_reducible refine w_os ?_) | (with_reducible refine w_ov ?_) | ((with_reducible apply w_var); exact rfl) | ((with_reducible refine if_yes ?_ ?_); exact rfl) | ((with_reducible refine if_no ?_ ?_); exact rfl)))
local macro_rules | `(tactic| array_get_dec) => `(tactic| repeat (first | (with_reducible refine w_seq ?_) | (with_reducible refine w_set ?_) | (with_reducible refine w_asg ?_) | (with_reducible refine w_par ?_) | (with_reducible refine w_setsub ?_) | (with_reducible refine w_iff ?_) | (with_reducible refine w_ret ?_) | (with_reducible refine w_expr ?_) | (with_reducible refine w_end ?_) | (with_reducible refine w_con ?_) | (with_reducible refine w_bin ?_) | (with_reducible refine w_neg ?_) | (with_reducible refine w_cmp ?_) | (with_reducible refine w_chn ?_) | (with_reducible refine w_and ?_) | (with_reducible refine w_or ?_) | (with_reducible refine w_not ?_) | (with_reducible refine w_ite ?_) | (with_reducible refine w_sub ?_) | (with_reducible refine w_sli ?_) | (with_reducible refine w_rev ?_) | (with_reducible refine w_fld ?_) | (with_reducible refine w_call ?_) | (with_reducible refine w_bmt ?_) | (with_reducible refine w_blt ?_) | (with_reducible refine w_isi ?_) | (with_reducible refine w_lst ?_) | (with_reducible refine w_tup ?_) | (with_reducible refine w_nil ?_) | (with_reducible refine w_arg ?_) | (with_reducible refine w_star ?_) | (with_reducible refine w_tr ?_) | (with_reducible refine o_add ?_) | (with_reducible refine o_sub ?_) | (with_reducible refine o_mod (by omega) ?_) | (with_reducible refine o_div (by omega) (by omega) ?_) | (with_reducible refine b_int ?_) | (with_reducible refine b_abs ?_) | (with_reducible refine b_max ?_) | (with_reducible refine b_min ?_) | (with_reducible refine c_lt ?_) | (with_reducible refine c_le ?_) | (with_reducible refine c_gt ?_) | (with_reducible refine c_ge ?_) | (with_reducible refine e_int ?_) | (with_reducible refine e_str ?_) | (with_reducible refine n_int ?_) | (with_reducible refine n_str ?_) | (with_reducible refine l_tup ?_) | (with_reducible refine l_lsv ?_) | (with_reducible refine w_mth ?_) | (with_reducible refine is_str ?_) | (with_reducible refine u_tup ?_) | (with_reducible refine l_new ?_) | (with_reducible refine isN_non ?_) | (with_reducible refine notN_non ?_) | (with_reducible refine isN_tup ?_) | (with_reducible refine notN_tup ?_) | (with_reducible refine w_for ?_) | (with_reducible refine w_whl ?_) | (with_reducible refine w_ev ?_) | (with_reducible refine w_keys ?_) | (with_reducible refine w_rng ?_) | (with_reducible refine it_tup ?_) | (with_reducible refine w_dic ?_) | (with_reducible refine w_pc ?_) | (with_reducible refine w_pn ?_) | (with_reducible refine w_tg ?_) | (with_reducible refine w_ng ?_) | (with_reducible refine w_cn ?_) | (with_reducible refine w_cs ?_) | (with_reducible refine w_os ?_) | (with_reducible refine w_ov ?_) | ((with_reducible apply w_var); exact rfl) | ((with_reducible refine if_yes ?_ ?_); exact rfl) | ((with_reducible refine if_no ?_ ?_); exact rfl)))
theorem w_setfld {P : Prog} {F : Phi} {σ : Env} {st : Sto} {D : Ends} {o e : IE} {f : String} (h : wpE P F e σ st (fun v st1 => wpE P F o σ st1 (fun x st2 => ∃ n c fs, x = .ref n ∧ st2[n]? = some (.ins c fs) ∧ P.pr c f = some none ∧ fs.length < 20 ∧ D.nx σ (st2.set n (.ins c (putFld f v fs))))
      (fun c v st' => D.ex c v σ st')) (fun c v st' => D.ex c v σ st')) : wpS P F (.setfld o f e) D σ st := h
theorem w_fs {P : Prog} {st : Sto} {n : Nat} {c f : String} {v : MV} {fs : List (String × MV)} {R : Sto → Prop} (h : st[n]? = some (.ins c fs)) (hp : P.pr c f = some none) (hl : fs.length < 20) (r : R (st.set n (.ins c (putFld f v fs)))) :
    ∃ n' c' fs', MV.ref n = .ref n' ∧ st[n']? = some (.ins c' fs') ∧ P.pr c' f = some none ∧ fs'.length < 20 ∧ R (st.set n' (.ins c' (putFld f v fs'))) := ⟨n, c, fs, rfl, h, hp, hl, r⟩
def keysR (R : Rs) : List Tx := R.steps.map (·.1)
theorem stpV_keys : ∀ (ss : List (Tx × List (List Tx))) (as : List Nat), as.length = ss.length → keysOf (stpV ss as) = (ss.map (·.1)).map .str
  | [], [], _ => rfl
  | s :: ss, a :: as, h => by
    have := stpV_keys ss as (by simpa using h)
    simp only [stpV, keysOf, List.zipWith_cons_cons, List.map_cons] at this ⊢
    rw [this]
  | [], _ :: _, h => by simp at h
  | _ :: _, [], h => by simp at h
theorem look_keys {kvs : List (MV × MV)} {ks : List Tx} (h : keysOf kvs = ks.map .str) (k : Tx) : (kLook (.str k) kvs).isSome = decide (k ∈ ks) := by
  induction kvs generalizing ks with
  | nil =>
    cases ks with
    | nil => rfl
    | cons a r => simp [keysOf] at h
  | cons e r ih =>
    cases ks with
    | nil => simp [keysOf] at h
    | cons a ks =>
      simp only [keysOf, List.map_cons, List.cons.injEq] at h
      obtain ⟨h1, h2⟩ := h
      obtain ⟨x, v⟩ := e
      simp only at h1
      subst h1
      show (if keyEq (.str a) (.str k) = true then some v else kLook (.str k) r).isSome = _
      by_cases e : a = k
      · subst e
        rw [if_pos (by simp [keyEq])]
        simp
      · rw [if_neg (by simp [keyEq, e]), ih h2]
        simp [Ne.symm e]
theorem put_new {kvs : List (MV × MV)} {ks : List Tx} (h : keysOf kvs = ks.map .str) {k : Tx} (hk : k ∉ ks) (v : MV) : kPut (.str k) v kvs = kvs ++ [(.str k, v)] := by
  unfold kPut
  have : (kvs.any fun p => keyEq p.1 (.str k)) = false := by
    rw [List.any_eq_false]
    intro p hp he
    have hm : p.1 ∈ keysOf kvs := List.mem_map_of_mem hp
    rw [h] at hm
    obtain ⟨a, ha, e⟩ := List.mem_map.mp hm
    rw [← e] at he
    have : a = k := by simpa [keyEq] using he
    exact hk (this ▸ ha)
  rw [this]
  rfl
def tAT : Tx := [97, 116]
section
variable {P : Prog} (B : HasRead P) {k : Nat} {st : Sto} {Q : Post} {X : Xp} {A : RdA} {R : Rs} (h : RdAt st A R)
include B h
theorem is_place_ok (hk : 3 ≤ k) {wl : Nat} {name : Tx} (hwl : wl ∉ A.all) (hw : st[wl]? = some (.lst ([tAT, name].map .str))) (ho : R.outs ≠ []) (ok : ∀ l ∈ R.ins ++ R.outs, okLine l) (hn : nmB name = true) (hnew : name ∉ keysR R) (hl : R.steps.length < 40)
    (q : RdPost A st { R with steps := R.steps ++ [(name, [])] } fun _ st' => Q (.bl true) st') : sem P k "Reading.is_place" [.ref A.r, .ref wl] st Q X := by
  refine sem_go (by omega) B.ip rfl ?_
  show wpSs P _ [_, _, _, _, _] _ [some (.ref A.r), some (.ref wl)] st
  have okO : PD.fineAll (R.outs.map lineD) = true := lines_fine _ fun l hl => ok l (List.mem_append_right _ hl)
  decreasing_trivial_pre_omega
  refine f_at h.ob B.pow rfl ?_
  decreasing_trivial_pre_omega
  refine g_dic h.ow rfl rfl ?_
  decreasing_trivial_pre_omega
  refine ⟨by simp [big], ?_⟩
  generalize hS : st ++ [MO.lst []] = S
  have kS : Keep [] st S := by rw [← hS]; exact Keep.app _ _ _
  have hv : S[st.length]? = some (.lst []) := by rw [← hS]; exact get_new
  have hS2 : RdAt S A R := h.keep kS (by simp)
  have hwS := kS.at_ _ _ (by simp) hw
  refine eq_void hS2.ol hv (lines_pd _) okO ?_
  have : (R.outs.map lineD).isEmpty = false := by
    cases hh : R.outs with
    | nil => exact absurd hh ho
    | cons a r => rfl
  rw [this]
  decreasing_trivial_pre_omega
  refine l_lst hwS ?_
  decreasing_trivial_pre_omega
  refine g_lst hwS (at_n 1 rfl) ?_
  decreasing_trivial_pre_omega
  refine is_name_ok B.nm (by omega) (by have := nm_len hn; simp [big]; omega) fun st1 k1 => ?_
  rw [hn]
  have kS1 := kS.trans k1
  have h1 : RdAt st1 A R := h.keep kS1 (by simp)
  have hw1 := kS1.at_ _ _ (by simp) hw
  decreasing_trivial_pre_omega
  refine g_lst hw1 (at_n 1 rfl) ?_
  decreasing_trivial_pre_omega
  refine f_at h1.ob B.pst rfl ?_
  refine i_dic h1.sl rfl ?_
  have hks : keysOf (stpV R.steps A.as) = (keysR R).map .str := stpV_keys R.steps A.as h1.la
  rw [look_keys hks, decide_eq_false hnew]
  decreasing_trivial_pre_omega
  refine f_at h1.ob B.pst rfl ?_
  decreasing_trivial_pre_omega
  refine l_dic h1.sl ?_
  decreasing_trivial_pre_omega
  have hlen : (stpV R.steps A.as).length = R.steps.length := by simp [stpV, h1.la]
  rw [hlen]
  refine if_no (by simp; omega) ?_
  decreasing_trivial_pre_omega
  refine w_setfld ?_
  decreasing_trivial_pre_omega
  refine g_lst hw1 (at_n 1 rfl) ?_
  decreasing_trivial_pre_omega
  refine w_fs h1.ob B.ppl (by simp) ?_
  generalize hS3 : st1.set A.r _ = S3
  decreasing_trivial_pre_omega
  have nd := h.nd
  simp only [RdA.all, List.cons_append, List.nil_append, List.nodup_cons, List.mem_cons, not_or] at nd
  obtain ⟨⟨a1, a2, a3, a4, a5, a6⟩, ⟨b1, b2, b3, b4, b5⟩, ⟨c1, c2, c3, c4⟩, ⟨d1, d2, d3⟩, ⟨e1, e2⟩, f1, g1⟩ := nd
  have ob3 : S3[A.r]? = some (.ins "Reading" [("own_lines", .ref A.o), ("steps", .ref A.ds), ("place", .str name), ("leads", .ref A.ld)]) := by rw [← hS3, get_set h1.ob]; rfl
  have kA : Keep A.all st S3 := by rw [← hS3]; exact (kS1.mono (by simp)).trans (Keep.set _ (by simp [RdA.all]))
  have keep3 : ∀ p o, p ≠ A.r → st1[p]? = some o → S3[p]? = some o := fun p o hne hp => by rw [← hS3]; exact get_other (fun e => hne e.symm) hp
  refine ⟨by simp [big], ?_⟩
  decreasing_trivial_pre_omega
  refine f_at (get_app ob3) B.pst rfl ?_
  decreasing_trivial_pre_omega
  refine f_at (get_app ob3) B.ppl rfl ?_
  have sl3 := keep3 _ _ (fun e => a4 e.symm) h1.sl
  refine s_dic (get_app sl3) rfl (by rw [hlen]; simp [big]; omega) ?_
  rw [put_new hks hnew]
  decreasing_trivial_pre_omega
  have hlt : ∀ p o, st1[p]? = some o → p < S3.length := fun p o hp => by
    have := (List.getElem?_eq_some_iff.mp hp).1
    rw [← hS3]; simpa using this
  have lt_as : ∀ a ∈ A.as, a < S3.length := fun a ha => by
    obtain ⟨i, hi⟩ := List.getElem?_of_mem ha
    have hil := (List.getElem?_eq_some_iff.mp hi).1
    have hil : i < R.steps.length := by rw [← h.la]; exact hil
    exact hlt _ _ (h1.ea i _ a (List.getElem?_eq_getElem hil) hi)
  refine q { A with as := A.as ++ [S3.length] } _ rfl ⟨?_, ?_, ?_, ?_, ?_, ?_, ?_, ?_, ?_⟩ ?_ ?_
  · rw [get_other (fun e => a4 e.symm) (get_app ob3)]
    simp [Rs.placeV]
  · exact get_other (fun e => b3 e.symm) (get_app (keep3 _ _ (fun e => a1 e.symm) h1.ow))
  · exact get_other (fun e => c2 e.symm) (get_app (keep3 _ _ (fun e => a2 e.symm) h1.il))
  · exact get_other (fun e => d1 e.symm) (get_app (keep3 _ _ (fun e => a3 e.symm) h1.ol))
  · rw [get_set (get_app sl3)]
    simp [stpV, List.zipWith_append, h.la]
  · simp [h.la]
  · intro i e a h2 h3
    simp only at h2 h3
    rcases Nat.lt_or_ge i R.steps.length with hi | hi
    · rw [List.getElem?_append_left hi] at h2
      rw [List.getElem?_append_left (by rw [h.la]; exact hi)] at h3
      have ha := List.mem_of_getElem? h3
      exact get_other (fun z => e2 (z ▸ ha)) (get_app (keep3 _ _ (fun z => a6 (z ▸ ha)) (h1.ea i e a h2 h3)))
    · rw [List.getElem?_append_right hi] at h2
      rw [List.getElem?_append_right (by rw [h.la]; exact hi)] at h3
      have z0 : i - R.steps.length = 0 := by
        have := (List.getElem?_eq_some_iff.mp h2).1
        simp at this
        omega
      rw [z0] at h2
      rw [h.la, z0] at h3
      simp at h2 h3
      subst h2 h3
      exact get_other (fun z => by have := hlt _ _ h1.sl; omega) (by simp)
  · exact get_other e1 (get_app (keep3 _ _ (fun e => a5 e.symm) h1.dl))
  · have := h.nd
    simp only [RdA.all] at this ⊢
    rw [← List.append_assoc, List.nodup_append]
    refine ⟨this, by simp, fun x hx y hy => ?_⟩
    simp at hy
    subst hy
    have : x < S3.length := by
      rcases List.mem_append.mp hx with hx | hx
      · simp at hx
        rcases hx with rfl | rfl | rfl | rfl | rfl | rfl
        · exact hlt _ _ h1.ob
        · exact hlt _ _ h1.ow
        · exact hlt _ _ h1.il
        · exact hlt _ _ h1.ol
        · exact hlt _ _ h1.sl
        · exact hlt _ _ h1.dl
      · exact lt_as _ hx
    omega
  · exact (kA.trans (Keep.app _ _ _)).trans (Keep.set _ (by simp [RdA.all]))
  · intro a ha
    simp only [RdA.all, List.mem_append, List.mem_singleton] at ha ⊢
    rcases ha with ha | ha | rfl
    · exact .inl (.inl ha)
    · exact .inl (.inr ha)
    · exact .inr kA.le
end
end Mi
-- B15
namespace Mi
local macro_rules | `(tactic| decreasing_trivial_pre_omega) => `(tactic| repeat (first | (with_reducible refine w_seq ?_) | (with_reducible refine w_set ?_) | (with_reducible refine w_asg ?_) | (with_reducible refine w_par ?_) | (with_reducible refine w_setsub ?_) | (with_reducible refine w_iff ?_) | (with_reducible refine w_ret ?_) | (with_reducible refine w_expr ?_) | (with_reducible refine w_end ?_) | (with_reducible refine w_con ?_) | (with_reducible refine w_bin ?_) | (with_reducible refine w_neg ?_) | (with_reducible refine w_cmp ?_) | (with_reducible refine w_chn ?_) | (with_reducible refine w_and ?_) | (with_reducible refine w_or ?_) | (with_reducible refine w_not ?_) | (with_reducible refine w_ite ?_) | (with_reducible refine w_sub ?_) | (with_reducible refine w_sli ?_) | (with_reducible refine w_rev ?_) | (with_reducible refine w_fld ?_) | (with_reducible refine w_call ?_) | (with_reducible refine w_bmt ?_) | (with_reducible refine w_blt ?_) | (with_reducible refine w_isi ?_) | (with_reducible refine w_lst ?_) | (with_reducible refine w_tup ?_) | (with_reducible refine w_nil ?_) | (with_reducible refine w_arg ?_) | (with_reducible refine w_star ?_) | (with_reducible refine w_tr ?_) | (with_reducible refine o_add ?_) | (with_reducible refine o_sub ?_) | (with_reducible refine o_mod (by omega) ?_) | (with_reducible refine o_div (by omega) (by omega) ?_) | (with_reducible refine b_int ?_) | (with_reducible refine b_abs ?_) | (with_reducible refine b_max ?_) | (with_reducible refine b_min ?_) | (with_reducible refine c_lt ?_) | (with_reducible refine c_le ?_) | (with_reducible refine c_gt ?_) | (with_reducible refine c_ge ?_) | (with_reducible refine e_int ?_) | (with_reducible refine e_str ?_) | (with_reducible refine n_int ?_) | (with_reducible refine n_str ?_) | (with_reducible refine l_tup ?_) | (with_reducible refine l_lsv ?_) | (with_reducible refine w_mth ?_) | (with_reducible refine is_str ?_) | (with_reducible refine u_tup ?_) | (with_reducible refine l_new ?_) | (with_reducible refine isN_non ?_) | (with_reducible refine notN_non ?_) | (with_reducible refine isN_tup ?_) | (with_reducible refine notN_tup ?_) | (with_reducible refine w_for ?_) | (with_reducible refine w_whl ?_) | (with_reducible refine w_ev ?_) | (with_reducible refine w_keys ?_) | (with_reducible refine w_rng ?_) | (with_reducible refine it_tup ?_) | (with_reducible refine w_lc ?_) | (with_reducible refine w_dic ?_) | (with_reducible refine w_pc ?_) | (with_reducible refine w_pn ?_) | (with_reducible refine w_tg ?_) | (with_reducible refine w_ng ?_) | (with_reducible refine w_cn ?_) | (with_reducible refine w_cs ?_) | (with_reducible refine w_os ?_) | (with_reducible refine w_ov ?_) | ((with_reducible apply w_var); exact rfl) | ((with_reducible refine if_yes ?_ ?_); exact rfl) | ((with_reducible refine if_no ?_ ?_); exact rfl)))
local macro_rules | `(tactic| array_get_dec) => `(tactic| repeat (first | (with_reducible refine w_seq ?_) | (with_reducible refine w_set ?_) | (with_reducible refine w_asg ?_) | (with_reducible refine w_par ?_) | (with_reducible refine w_setsub ?_) | (with_reducible refine w_iff ?_) | (with_reducible refine w_ret ?_) | (with_reducible refine w_expr ?_) | (with_reducible refine w_end ?_) | (with_reducible refine w_con ?_) | (with_reducible refine w_bin ?_) | (with_reducible refine w_neg ?_) | (with_reducible refine w_cmp ?_) | (with_reducible refine w_chn ?_) | (with_reducible refine w_and ?_) | (with_reducible refine w_or ?_) | (with_reducible refine w_not ?_) | (with_reducible refine w_ite ?_) | (with_reducible refine w_sub ?_) | (with_reducible refine w_sli ?_) | (with_reducible refine w_rev ?_) | (with_reducible refine w_fld ?_) | (with_reducible refine w_call ?_) | (with_reducible refine w_bmt ?_) | (with_reducible refine w_blt ?_) | (with_reducible refine w_isi ?_) | (with_reducible refine w_lst ?_) | (with_reducible refine w_tup ?_) | (with_reducible refine w_nil ?_) | (with_reducible refine w_arg ?_) | (with_reducible refine w_star ?_) | (with_reducible refine w_tr ?_) | (with_reducible refine o_add ?_) | (with_reducible refine o_sub ?_) | (with_reducible refine o_mod (by omega) ?_) | (with_reducible refine o_div (by omega) (by omega) ?_) | (with_reducible refine b_int ?_) | (with_reducible refine b_abs ?_) | (with_reducible refine b_max ?_) | (with_reducible refine b_min ?_) | (with_reducible refine c_lt ?_) | (with_reducible refine c_le ?_) | (with_reducible refine c_gt ?_) | (with_reducible refine c_ge ?_) | (with_reducible refine e_int ?_) | (with_reducible refine e_str ?_) | (with_reducible refine n_int ?_) | (with_reducible refine n_str ?_) | (with_reducible refine l_tup ?_) | (with_reducible refine l_lsv ?_) | (with_reducible refine w_mth ?_) | (with_reducible refine is_str ?_) | (with_reducible refine u_tup ?_) | (with_reducible refine l_new ?_) | (with_reducible refine isN_non ?_) | (with_reducible refine notN_non ?_) | (with_reducible refine isN_tup ?_) | (with_reducible refine notN_tup ?_) | (with_reducible refine w_for ?_) | (with_reducible refine w_whl ?_) | (with_reducible refine w_ev ?_) | (with_reducible refine w_keys ?_) | (with_reducible refine w_rng ?_) | (with_reducible refine it_tup ?_) | (with_reducible refine w_dic ?_) | (with_reducible refine w_pc ?_) | (with_reducible refine w_pn ?_) | (with_reducible refine w_tg ?_) | (with_reducible refine w_ng ?_) | (with_reducible refine w_cn ?_) | (with_reducible refine w_cs ?_) | (with_reducible refine w_os ?_) | (with_reducible refine w_ov ?_) | ((with_reducible apply w_var); exact rfl) | ((with_reducible refine if_yes ?_ ?_); exact rfl) | ((with_reducible refine if_no ?_ ?_); exact rfl)))
def tTURN : Tx := [116, 117, 114, 110]
def tTAKE : Tx := [116, 97, 107, 101]
def tPUT : Tx := [112, 117, 116]
/-- a step that the reading takes -/
inductive Formed (R : Rs) : List Tx → Prop where
  | turn {p : Tx} : nmB p = true → Formed R [tTURN, p]
  | take {l x p : Tx} {n : Int} {ws : List Tx} : nmB p = true → (l, n, ws) ∈ R.ins → x ∈ ws → Formed R [tTAKE, l, x, p]
  | put {l x p : Tx} {n : Int} {ws : List Tx} : nmB p = true → (l, n, ws) ∈ R.outs → x ∈ ws → Formed R [tPUT, l, x, p]
theorem tin_strs {st : Sto} {x : Tx} {ws : List Tx} {Q : Bool → Sto → Prop} (q : Q (decide (x ∈ ws)) st) : opCmp .inn (.str x) (.tup (ws.map .str)) st Q := by
  refine ⟨.str x, ws.map .str, rfl, strs_pd30 ws, rfl, scal_strs ws, ?_⟩
  rw [any_strs]
  exact q
/-- does a line fit -/
theorem line_any {P : Prog} {F : Phi} {st : Sto} {Q : Post} {X : Xp} {v0 : MV} {a : Nat} {ls : List Line} {l x w p : Tx} (ha : st[a]? = some (.lst (ls.map lineV))) (hl : ls.length < big)
    (q : ∀ st' b, Keep [] st st' → st'[b]? = some (.lst ((ls.map fun e => e.1 == l && decide (x ∈ e.2.2)).map .bl)) → Q (.ref b) st') :
    wpE P F (.lc (.and (.cmp .eq (.sub (.var 3) (.con (.int 0))) (.sub (.var 1) (.con (.int 1)))) (.cmp .inn (.sub (.var 1) (.con (.int 2))) (.sub (.var 3) (.con (.int 2))))) (.name 3) (.ev (.var 2)) .non [3]) [some v0, some (stepV [w, l, x, p]), some (.ref a), none] st Q X := by
  refine w_lc (w_ev (w_var rfl ?_))
  refine it_lst ha ⟨by simpa using hl, ?_⟩
  refine loop_go (fun pre acc st' => st' = st ∧ ∃ pl : List Line, pre = pl.map lineV ∧ acc = (pl.map fun e => e.1 == l && decide (x ∈ e.2.2)).map MV.bl) ⟨rfl, [], rfl, rfl⟩ (fun _ _ _ e => by rw [e.1]; exact ha) ?_ ?_
  · rintro pre y r acc st' kk e ⟨rfl, pl, rfl, rfl⟩ hkk
    obtain ⟨e1, _, rfl⟩ := item_at e
    decreasing_trivial_pre_omega
    refine g_tup (by rfl) ?_
    decreasing_trivial_pre_omega
    refine g_tup (by rfl) ?_
    decreasing_trivial_pre_omega
    cases he : e1.1 == l with
    | false =>
      decreasing_trivial_pre_omega
      exact hkk _ _ ⟨rfl, pl ++ [e1], by simp, by simp [he]⟩
    | true =>
      decreasing_trivial_pre_omega
      refine g_tup (by rfl) ?_
      decreasing_trivial_pre_omega
      refine g_tup (by rfl) ?_
      refine tin_strs ?_
      exact hkk _ _ ⟨rfl, pl ++ [e1], by simp, by simp [he]⟩
  · rintro acc st' ⟨rfl, pl, e, rfl⟩
    have e : ls = pl := by
      have h := congrArg (List.map fun (m : MV) => match m with | MV.tup [MV.str a, MV.int b, MV.tup ws] => (a, b, ws.map fun (w : MV) => match w with | MV.str t => t | _ => []) | _ => ([], 0, [])) (show ls.map lineV = pl.map lineV from e)
      simpa [List.map_map, Function.comp_def] using h
    subst e
    exact q _ _ (Keep.app [] _ _) get_new
section
variable {P : Prog} (B : HasRead P) {k : Nat} {st : Sto} {Q : Post} {X : Xp} {A : RdA} {R : Rs} (h : RdAt st A R)
include B h
theorem formed_ok (hk : 2 ≤ k) {s : List Tx} (hl : R.ins.length ≤ 3 ∧ R.outs.length ≤ 3) (hf : Formed R s) (q : ∀ st', Keep [] st st' → Q (.bl true) st') : sem P k "Reading.is_formed" [.ref A.r, stepV s] st Q X := by
  refine sem_go (by omega) B.fm rfl ?_
  show wpSs P _ [_, _, _] _ [some (.ref A.r), some (stepV s), none, none] st
  cases hf with
  | @turn p hp =>
    have hpl := nm_len hp
    decreasing_trivial_pre_omega
    refine g_tup (by rfl) ?_
    decreasing_trivial_pre_omega
    refine g_tup (by rfl) ?_
    decreasing_trivial_pre_omega
    refine is_name_ok B.nm (by omega) (by simp [big]; omega) fun st1 k1 => ?_
    rw [hp]
    decreasing_trivial_pre_omega
    refine g_tup (by rfl) ?_
    decreasing_trivial_pre_omega
    refine f_at (h.keep k1 (by simp)).ob B.pow rfl ?_
    decreasing_trivial_pre_omega
    refine g_dic (h.keep k1 (by simp)).ow rfl rfl ?_
    decreasing_trivial_pre_omega
    refine g_tup (by rfl) ?_
    decreasing_trivial_pre_omega
    exact q _ k1
  | @take l x p n ws hp hm hx =>
    have hpl := nm_len hp
    decreasing_trivial_pre_omega
    refine g_tup (by rfl) ?_
    decreasing_trivial_pre_omega
    refine g_tup (by rfl) ?_
    decreasing_trivial_pre_omega
    refine is_name_ok B.nm (by omega) (by simp [big]; omega) fun st1 k1 => ?_
    have h1 := h.keep k1 (by simp)
    rw [hp]
    decreasing_trivial_pre_omega
    refine g_tup (by rfl) ?_
    decreasing_trivial_pre_omega
    refine f_at h1.ob B.pow rfl ?_
    decreasing_trivial_pre_omega
    refine g_dic h1.ow rfl rfl ?_
    decreasing_trivial_pre_omega
    refine g_tup (by rfl) ?_
    array_get_dec
    refine line_any (ls := R.ins) h1.il (by simp [big]; omega) fun st2 b k2 hb => ?_
    array_get_dec
    refine b_any hb ?_
    rw [show (R.ins.map fun e => e.1 == l && decide (x ∈ e.2.2)).any id = true by
      rw [List.any_map, List.any_eq_true]
      exact ⟨_, hm, by simp [hx]⟩]
    exact q _ (k1.trans k2)
  | @put l x p n ws hp hm hx =>
    have hpl := nm_len hp
    decreasing_trivial_pre_omega
    refine g_tup (by rfl) ?_
    decreasing_trivial_pre_omega
    refine g_tup (by rfl) ?_
    decreasing_trivial_pre_omega
    refine is_name_ok B.nm (by omega) (by simp [big]; omega) fun st1 k1 => ?_
    have h1 := h.keep k1 (by simp)
    rw [hp]
    decreasing_trivial_pre_omega
    refine g_tup (by rfl) ?_
    decreasing_trivial_pre_omega
    refine f_at h1.ob B.pow rfl ?_
    decreasing_trivial_pre_omega
    refine g_dic h1.ow rfl rfl ?_
    decreasing_trivial_pre_omega
    refine g_tup (by rfl) ?_
    array_get_dec
    refine line_any (ls := R.outs) h1.ol (by simp [big]; omega) fun st2 b k2 hb => ?_
    array_get_dec
    refine b_any hb ?_
    rw [show (R.outs.map fun e => e.1 == l && decide (x ∈ e.2.2)).any id = true by
      rw [List.any_map, List.any_eq_true]
      exact ⟨_, hm, by simp [hx]⟩]
    exact q _ (k1.trans k2)
end
end Mi
-- B16
namespace Mi
local macro_rules | `(tactic| decreasing_trivial_pre_omega) => `(tactic| repeat (first | (with_reducible refine w_seq ?_) | (with_reducible refine w_set ?_) | (with_reducible refine w_asg ?_) | (with_reducible refine w_par ?_) | (with_reducible refine w_setsub ?_) | (with_reducible refine w_iff ?_) | (with_reducible refine w_ret ?_) | (with_reducible refine w_expr ?_) | (with_reducible refine w_end ?_) | (with_reducible refine w_con ?_) | (with_reducible refine w_bin ?_) | (with_reducible refine w_neg ?_) | (with_reducible refine w_cmp ?_) | (with_reducible refine w_chn ?_) | (with_reducible refine w_and ?_) | (with_reducible refine w_or ?_) | (with_reducible refine w_not ?_) | (with_reducible refine w_ite ?_) | (with_reducible refine w_sub ?_) | (with_reducible refine w_sli ?_) | (with_reducible refine w_rev ?_) | (with_reducible refine w_fld ?_) | (with_reducible refine w_call ?_) | (with_reducible refine w_bmt ?_) | (with_reducible refine w_blt ?_) | (with_reducible refine w_isi ?_) | (with_reducible refine w_lst ?_) | (with_reducible refine w_tup ?_) | (with_reducible refine w_nil ?_) | (with_reducible refine w_arg ?_) | (with_reducible refine w_star ?_) | (with_reducible refine w_tr ?_) | (with_reducible refine o_add ?_) | (with_reducible refine o_sub ?_) | (with_reducible refine o_mod (by omega) ?_) | (with_reducible refine o_div (by omega) (by omega) ?_) | (with_reducible refine b_int ?_) | (with_reducible refine b_abs ?_) | (with_reducible refine b_max ?_) | (with_reducible refine b_min ?_) | (with_reducible refine c_lt ?_) | (with_reducible refine c_le ?_) | (with_reducible refine c_gt ?_) | (with_reducible refine c_ge ?_) | (with_reducible refine e_int ?_) | (with_reducible refine e_str ?_) | (with_reducible refine n_int ?_) | (with_reducible refine n_str ?_) | (with_reducible refine l_tup ?_) | (with_reducible refine l_lsv ?_) | (with_reducible refine w_mth ?_) | (with_reducible refine is_str ?_) | (with_reducible refine u_tup ?_) | (with_reducible refine l_new ?_) | (with_reducible refine isN_non ?_) | (with_reducible refine notN_non ?_) | (with_reducible refine isN_tup ?_) | (with_reducible refine notN_tup ?_) | (with_reducible refine w_for ?_) | (with_reducible refine w_whl ?_) | (with_reducible refine w_ev ?_) | (with_reducible refine w_keys ?_) | (with_reducible refine w_rng ?_) | (with_reducible refine it_tup ?_) | (with_reducible refine w_lc ?_) | (with_reducible refine w_dic ?_) | (with_reducible refine w_pc ?_) | (with_reducible refine w_pn ?_) | (with_reducible refine w_tg ?_) | (with_reducible refine w_ng ?_) | (with_reducible refine w_cn ?_) | (with_reducible refine w_cs ?_) | (with_reducible refine w_os ?_) | (with_reducible refine w_ov ?_) | ((with_reducible apply w_var); exact rfl) | ((with_reducible refine if_yes ?_ ?_); exact rfl) | ((with_reducible refine if_no ?_ ?_); exact rfl)))
local macro_rules | `(tactic| array_get_dec) => `(tactic| repeat (first | (with_reducible refine w_seq ?_) | (with_reducible refine w_set ?_) | (with_reducible refine w_asg ?_) | (with_reducible refine w_par ?_) | (with_reducible refine w_setsub ?_) | (with_reducible refine w_iff ?_) | (with_reducible refine w_ret ?_) | (with_reducible refine w_expr ?_) | (with_reducible refine w_end ?_) | (with_reducible refine w_con ?_) | (with_reducible refine w_bin ?_) | (with_reducible refine w_neg ?_) | (with_reducible refine w_cmp ?_) | (with_reducible refine w_chn ?_) | (with_reducible refine w_and ?_) | (with_reducible refine w_or ?_) | (with_reducible refine w_not ?_) | (with_reducible refine w_ite ?_) | (with_reducible refine w_sub ?_) | (with_reducible refine w_sli ?_) | (with_reducible refine w_rev ?_) | (with_reducible refine w_fld ?_) | (with_reducible refine w_call ?_) | (with_reducible refine w_bmt ?_) | (with_reducible refine w_blt ?_) | (with_reducible refine w_isi ?_) | (with_reducible refine w_lst ?_) | (with_reducible refine w_tup ?_) | (with_reducible refine w_nil ?_) | (with_reducible refine w_arg ?_) | (with_reducible refine w_star ?_) | (with_reducible refine w_tr ?_) | (with_reducible refine o_add ?_) | (with_reducible refine o_sub ?_) | (with_reducible refine o_mod (by omega) ?_) | (with_reducible refine o_div (by omega) (by omega) ?_) | (with_reducible refine b_int ?_) | (with_reducible refine b_abs ?_) | (with_reducible refine b_max ?_) | (with_reducible refine b_min ?_) | (with_reducible refine c_lt ?_) | (with_reducible refine c_le ?_) | (with_reducible refine c_gt ?_) | (with_reducible refine c_ge ?_) | (with_reducible refine e_int ?_) | (with_reducible refine e_str ?_) | (with_reducible refine n_int ?_) | (with_reducible refine n_str ?_) | (with_reducible refine l_tup ?_) | (with_reducible refine l_lsv ?_) | (with_reducible refine w_mth ?_) | (with_reducible refine is_str ?_) | (with_reducible refine u_tup ?_) | (with_reducible refine l_new ?_) | (with_reducible refine isN_non ?_) | (with_reducible refine notN_non ?_) | (with_reducible refine isN_tup ?_) | (with_reducible refine notN_tup ?_) | (with_reducible refine w_for ?_) | (with_reducible refine w_whl ?_) | (with_reducible refine w_ev ?_) | (with_reducible refine w_keys ?_) | (with_reducible refine w_rng ?_) | (with_reducible refine it_tup ?_) | (with_reducible refine w_dic ?_) | (with_reducible refine w_pc ?_) | (with_reducible refine w_pn ?_) | (with_reducible refine w_tg ?_) | (with_reducible refine w_ng ?_) | (with_reducible refine w_cn ?_) | (with_reducible refine w_cs ?_) | (with_reducible refine w_os ?_) | (with_reducible refine w_ov ?_) | ((with_reducible apply w_var); exact rfl) | ((with_reducible refine if_yes ?_ ?_); exact rfl) | ((with_reducible refine if_no ?_ ?_); exact rfl)))
def stepD (s : List Tx) : PD := .tup (s.map .str)
theorem step_pd {n : Nat} {st : Sto} (s : List Tx) : toPD (n + 2) st (stepV s) = some (stepD s) := by
  have : (s.map MV.str).mapM (toPD (n + 1) st) = some (s.map PD.str) := by
    induction s with
    | nil => rfl
    | cons w ws ih => rw [List.map_cons, List.mapM_cons, ih]; rfl
  simp only [stepV, toPD, this]
  rfl
theorem steps_pd {n : Nat} {st : Sto} : ∀ ss : List (List Tx), (ss.map stepV).mapM (toPD (n + 2) st) = some (ss.map stepD)
  | [] => rfl
  | s :: ss => by rw [List.map_cons, List.mapM_cons, step_pd, steps_pd ss]; rfl
theorem step_fine {s : List Tx} (h : ∀ w ∈ s, okTx w) : PD.fine (stepD s) = true := by
  show PD.fineAll (s.map .str) = true
  exact strs_fine s h
theorem steps_fine : ∀ ss : List (List Tx), (∀ s ∈ ss, ∀ w ∈ s, okTx w) → PD.fineAll (ss.map stepD) = true
  | [], _ => rfl
  | s :: ss, h => by
    show (PD.fine (stepD s) && PD.fineAll (ss.map stepD)) = true
    rw [step_fine (h s List.mem_cons_self), steps_fine ss fun t ht => h t (List.mem_cons_of_mem _ ht)]
    rfl
theorem eqv_step : ∀ a b : List Tx, PD.eqvAll (a.map .str) (b.map .str) = decide (a = b)
  | [], [] => rfl
  | [], _ :: _ => rfl
  | _ :: _, [] => rfl
  | x :: a, y :: b => by
    show (PD.eqv (.str x) (.str y) && PD.eqvAll (a.map .str) (b.map .str)) = _
    rw [eqv_step a b]
    show ((x == y) && _) = _
    by_cases e : x = y
    · subst e; simp
    · simp [e]
theorem any_steps (s : List Tx) (ss : List (List Tx)) : ((ss.map stepD).any fun z => PD.eqv z (stepD s)) = decide (s ∈ ss) := by
  induction ss with
  | nil => simp
  | cons t ss ih =>
    rw [List.map_cons, List.any_cons, ih]
    show (PD.eqvAll (t.map .str) (s.map .str) || _) = _
    rw [eqv_step]
    by_cases e : t = s
    · subst e; simp
    · simp [e, Ne.symm e]
theorem in_steps {st : Sto} {a : Nat} {s : List Tx} {ss : List (List Tx)} {Q : Bool → Sto → Prop} (h : st[a]? = some (.lst (ss.map stepV))) (ok : ∀ t ∈ s :: ss, ∀ w ∈ t, okTx w) (q : Q (decide (s ∈ ss)) st) : opCmp .inn (stepV s) (.ref a) st Q := by
  simp only [opCmp, opIn, h]
  refine ⟨stepD s, ss.map stepD, step_pd s, steps_pd ss, .inr ⟨step_fine (ok s List.mem_cons_self), steps_fine ss fun t ht => ok t (List.mem_cons_of_mem _ ht)⟩, ?_⟩
  rw [any_steps]
  exact q
theorem look_last {ss : List (Tx × List (List Tx))} {as : List Nat} {p : Tx} {sl : List (List Tx)} {a : Nat} (hl : as.length = ss.length) (hn : p ∉ ss.map (·.1)) : kLook (.str p) (stpV (ss ++ [(p, sl)]) (as ++ [a])) = some (.ref a) := by
  induction ss generalizing as with
  | nil =>
    cases as with
    | nil => simp [stpV, kLook, keyEq]
    | cons b r => simp at hl
  | cons e ss ih =>
    cases as with
    | nil => simp at hl
    | cons b as =>
      simp only [List.map_cons, List.mem_cons, not_or] at hn
      show (if keyEq (.str e.1) (.str p) = true then some (MV.ref b) else kLook (.str p) (stpV (ss ++ [(p, sl)]) (as ++ [a]))) = _
      rw [if_neg (by simp [keyEq, Ne.symm hn.1]), ih (by simpa using hl) hn.2]
theorem step_last {R : Rs} {ss : List (Tx × List (List Tx))} {p : Tx} {sl : List (List Tx)} (hs : R.steps = ss ++ [(p, sl)]) : R.placeV = .str p := by simp [Rs.placeV, hs]
section
variable {P : Prog} (B : HasRead P) {k : Nat} {st : Sto} {Q : Post} {X : Xp} {A : RdA} {R : Rs} (h : RdAt st A R)
include B h
theorem is_step_ok (hk : 4 ≤ k) {wl : Nat} {num : Int} {s : List Tx} {ss : List (Tx × List (List Tx))} {p : Tx} {sl : List (List Tx)} (hwl : wl ∉ A.all) (hw : st[wl]? = some (.lst (s.map .str))) (hs : R.steps = ss ++ [(p, sl)]) (hn : (keysR R).Nodup)
    (hl : R.ins.length ≤ 3 ∧ R.outs.length ≤ 3) (hf : Formed R s) (ok : ∀ t ∈ s :: sl, ∀ w ∈ t, okTx w) (hnew : s ∉ sl) (hld : R.leads.length < 80) (hsl : sl.length < 80)
    (q : RdPost A st { R with steps := ss ++ [(p, sl ++ [s])], leads := R.leads ++ [(num, tgt s)] } fun _ st' => Q (.bl true) st') : sem P k "Reading.is_step" [.ref A.r, .int num, .ref wl] st Q X := by
  refine sem_go (by omega) B.is rfl ?_
  show wpSs P _ [_, _, _, _, _, _] _ [some (.ref A.r), some (.int num), some (.ref wl), none] st
  have sne : s ≠ [] := by rintro rfl; cases hf
  have hla := h.la
  rw [hs] at hla
  obtain ⟨as, a, hA⟩ : ∃ as a, A.as = as ++ [a] := by
    rcases List.eq_nil_or_concat A.as with z | ⟨l, b, z⟩
    · rw [z] at hla; simp at hla
    · exact ⟨l, b, by rw [z, List.concat_eq_append]⟩
  have hal : as.length = ss.length := by rw [hA] at hla; simpa using hla
  have hkn : p ∉ ss.map (·.1) := by
    have := hn
    simp only [keysR, hs, List.map_append, List.nodup_append] at this
    intro hm
    exact this.2.2 p hm p (by simp) rfl
  have hob := h.ob
  rw [step_last hs] at hob
  have hlook : kLook (.str p) (stpV R.steps A.as) = some (.ref a) := by rw [hs, hA]; exact look_last hal hkn
  have haa : st[a]? = some (.lst (sl.map stepV)) := h.ea ss.length (p, sl) a (by rw [hs]; simp) (by rw [hA, ← hal]; simp)
  decreasing_trivial_pre_omega
  refine u_lst hw ?_
  decreasing_trivial_pre_omega
  refine f_at hob B.ppl rfl ?_
  decreasing_trivial_pre_omega
  refine isN_any ?_
  decreasing_trivial_pre_omega
  refine w_gm hob rfl B.mfm ?_
  decreasing_trivial_pre_omega
  refine formed_ok B h (by omega) hl hf fun st1 k1 => ?_
  have h1 : RdAt st1 A R := h.keep k1 (by simp)
  have hob1 := k1.at_ _ _ (by simp) hob
  have haa1 := k1.at_ _ _ (by simp) haa
  decreasing_trivial_pre_omega
  refine f_at hob1 B.pst rfl ?_
  decreasing_trivial_pre_omega
  refine f_at hob1 B.ppl rfl ?_
  refine g_dic h1.sl rfl hlook ?_
  refine in_steps haa1 ok ?_
  rw [decide_eq_false hnew]
  decreasing_trivial_pre_omega
  refine f_at hob1 B.pld rfl ?_
  decreasing_trivial_pre_omega
  refine l_lst h1.dl ?_
  decreasing_trivial_pre_omega
  refine if_no (by simp; omega) ?_
  decreasing_trivial_pre_omega
  refine f_at hob1 B.pst rfl ?_
  decreasing_trivial_pre_omega
  refine f_at hob1 B.ppl rfl ?_
  refine g_dic h1.sl rfl hlook ?_
  refine ⟨bt_lst haa1 rfl, ?_⟩
  decreasing_trivial_pre_omega
  refine m_app haa1 (by simp [big]; omega) ?_
  decreasing_trivial_pre_omega
  have nd := h.nd
  simp only [RdA.all, List.cons_append, List.nil_append, List.nodup_cons, List.mem_cons, not_or] at nd
  obtain ⟨⟨a1, a2, a3, a4, a5, a6⟩, ⟨b1, b2, b3, b4, b5⟩, ⟨c1, c2, c3, c4⟩, ⟨d1, d2, d3⟩, ⟨e1, e2⟩, f1, g1⟩ := nd
  have ham : a ∈ A.as := by rw [hA]; simp
  have nar : A.r ≠ a := fun z => a6 (z ▸ ham)
  have nao : A.o ≠ a := fun z => b5 (z ▸ ham)
  have nai : A.li ≠ a := fun z => c4 (z ▸ ham)
  have nal : A.lo ≠ a := fun z => d3 (z ▸ ham)
  have nas : A.ds ≠ a := fun z => e2 (z ▸ ham)
  have nad : A.ld ≠ a := fun z => f1 (z ▸ ham)
  refine f_at (get_other nar.symm hob1) B.pld rfl ?_
  have dl2 : ∀ o, (st1.set a o)[A.ld]? = some (.lst (R.leads.map leadV)) := fun o => get_other nad.symm h1.dl
  refine ⟨bt_lst (dl2 _) rfl, ?_⟩
  decreasing_trivial_pre_omega
  refine g_tup (last_step sne) ?_
  decreasing_trivial_pre_omega
  refine ⟨by simp [big], ?_⟩
  decreasing_trivial_pre_omega
  refine m_app (dl2 _) (by simp [big]; omega) ?_
  decreasing_trivial_pre_omega
  refine q A _ rfl ⟨?_, ?_, ?_, ?_, ?_, ?_, ?_, ?_, h.nd⟩ ?_ (fun _ z => .inl z)
  · rw [get_other (fun z => a5 z.symm) (get_other nar.symm hob1)]
    simp [Rs.placeV]
  · exact get_other (fun z => b4 z.symm) (get_other nao.symm h1.ow)
  · exact get_other (fun z => c3 z.symm) (get_other nai.symm h1.il)
  · exact get_other (fun z => d2 z.symm) (get_other nal.symm h1.ol)
  · have := get_other (fun z => e1 z.symm) (get_other (o' := .lst (sl.map stepV ++ [stepV s])) nas.symm h1.sl) (o' := .lst (R.leads.map leadV ++ [leadV (num, tgt s)]))
    refine Eq.trans this ?_
    rw [hs, hA]
    simp [stpV, List.zipWith_append, hal]
  · rw [h.la, hs]; simp
  · intro i e b h2 h3
    have hbm := List.mem_of_getElem? h3
    have nbd : A.ld ≠ b := fun z => f1 (z ▸ hbm)
    simp only at h2
    refine get_other nbd ?_
    rcases Nat.lt_or_ge i ss.length with hi | hi
    · rw [List.getElem?_append_left hi] at h2
      have hne : a ≠ b := by
        rintro rfl
        have h4 : A.as[ss.length]? = some a := by rw [hA, ← hal]; simp
        have := (List.getElem?_inj (List.getElem?_eq_some_iff.mp h3).1 g1).mp (h3.trans h4.symm)
        omega
      refine get_other hne (h1.ea i e b ?_ h3)
      rw [hs, List.getElem?_append_left hi]; exact h2
    · have hil : i = ss.length := by
        have := (List.getElem?_eq_some_iff.mp h2).1
        simp at this
        omega
      subst hil
      simp at h2
      subst h2
      have h4 : A.as[ss.length]? = some a := by rw [hA, ← hal]; simp
      rw [h4] at h3
      cases h3
      rw [get_set haa1]
      simp
  · rw [get_set (dl2 _)]
    simp
  · exact ((k1.mono (by simp)).trans (Keep.set _ (by simp [RdA.all, ham]))).trans (Keep.set _ (by simp [RdA.all]))
end
end Mi
-- B17
namespace Mi
local macro_rules | `(tactic| decreasing_trivial_pre_omega) => `(tactic| repeat (first | (with_reducible refine w_seq ?_) | (with_reducible refine w_set ?_) | (with_reducible refine w_asg ?_) | (with_reducible refine w_par ?_) | (with_reducible refine w_setsub ?_) | (with_reducible refine w_iff ?_) | (with_reducible refine w_ret ?_) | (with_reducible refine w_expr ?_) | (with_reducible refine w_end ?_) | (with_reducible refine w_con ?_) | (with_reducible refine w_bin ?_) | (with_reducible refine w_neg ?_) | (with_reducible refine w_cmp ?_) | (with_reducible refine w_chn ?_) | (with_reducible refine w_and ?_) | (with_reducible refine w_or ?_) | (with_reducible refine w_not ?_) | (with_reducible refine w_ite ?_) | (with_reducible refine w_sub ?_) | (with_reducible refine w_sli ?_) | (with_reducible refine w_rev ?_) | (with_reducible refine w_fld ?_) | (with_reducible refine w_call ?_) | (with_reducible refine w_bmt ?_) | (with_reducible refine w_blt ?_) | (with_reducible refine w_isi ?_) | (with_reducible refine w_lst ?_) | (with_reducible refine w_tup ?_) | (with_reducible refine w_nil ?_) | (with_reducible refine w_arg ?_) | (with_reducible refine w_star ?_) | (with_reducible refine w_tr ?_) | (with_reducible refine o_add ?_) | (with_reducible refine o_sub ?_) | (with_reducible refine o_mod (by omega) ?_) | (with_reducible refine o_div (by omega) (by omega) ?_) | (with_reducible refine b_int ?_) | (with_reducible refine b_abs ?_) | (with_reducible refine b_max ?_) | (with_reducible refine b_min ?_) | (with_reducible refine c_lt ?_) | (with_reducible refine c_le ?_) | (with_reducible refine c_gt ?_) | (with_reducible refine c_ge ?_) | (with_reducible refine e_int ?_) | (with_reducible refine e_str ?_) | (with_reducible refine n_int ?_) | (with_reducible refine n_str ?_) | (with_reducible refine l_tup ?_) | (with_reducible refine l_lsv ?_) | (with_reducible refine w_mth ?_) | (with_reducible refine is_str ?_) | (with_reducible refine u_tup ?_) | (with_reducible refine l_new ?_) | (with_reducible refine isN_non ?_) | (with_reducible refine notN_non ?_) | (with_reducible refine isN_tup ?_) | (with_reducible refine notN_tup ?_) | (with_reducible refine w_for ?_) | (with_reducible refine w_whl ?_) | (with_reducible refine w_ev ?_) | (with_reducible refine w_keys ?_) | (with_reducible refine w_rng ?_) | (with_reducible refine it_tup ?_) | (with_reducible refine w_lc ?_) | (with_reducible refine w_dic ?_) | (with_reducible refine w_pc ?_) | (with_reducible refine w_pn ?_) | (with_reducible refine w_tg ?_) | (with_reducible refine w_ng ?_) | (with_reducible refine w_cn ?_) | (with_reducible refine w_cs ?_) | (with_reducible refine w_os ?_) | (with_reducible refine w_ov ?_) | ((with_reducible apply w_var); exact rfl) | ((with_reducible refine if_yes ?_ ?_); exact rfl) | ((with_reducible refine if_no ?_ ?_); exact rfl)))
local macro_rules | `(tactic| array_get_dec) => `(tactic| repeat (first | (with_reducible refine w_seq ?_) | (with_reducible refine w_set ?_) | (with_reducible refine w_asg ?_) | (with_reducible refine w_par ?_) | (with_reducible refine w_setsub ?_) | (with_reducible refine w_iff ?_) | (with_reducible refine w_ret ?_) | (with_reducible refine w_expr ?_) | (with_reducible refine w_end ?_) | (with_reducible refine w_con ?_) | (with_reducible refine w_bin ?_) | (with_reducible refine w_neg ?_) | (with_reducible refine w_cmp ?_) | (with_reducible refine w_chn ?_) | (with_reducible refine w_and ?_) | (with_reducible refine w_or ?_) | (with_reducible refine w_not ?_) | (with_reducible refine w_ite ?_) | (with_reducible refine w_sub ?_) | (with_reducible refine w_sli ?_) | (with_reducible refine w_rev ?_) | (with_reducible refine w_fld ?_) | (with_reducible refine w_call ?_) | (with_reducible refine w_bmt ?_) | (with_reducible refine w_blt ?_) | (with_reducible refine w_isi ?_) | (with_reducible refine w_lst ?_) | (with_reducible refine w_tup ?_) | (with_reducible refine w_nil ?_) | (with_reducible refine w_arg ?_) | (with_reducible refine w_star ?_) | (with_reducible refine w_tr ?_) | (with_reducible refine o_add ?_) | (with_reducible refine o_sub ?_) | (with_reducible refine o_mod (by omega) ?_) | (with_reducible refine o_div (by omega) (by omega) ?_) | (with_reducible refine b_int ?_) | (with_reducible refine b_abs ?_) | (with_reducible refine b_max ?_) | (with_reducible refine b_min ?_) | (with_reducible refine c_lt ?_) | (with_reducible refine c_le ?_) | (with_reducible refine c_gt ?_) | (with_reducible refine c_ge ?_) | (with_reducible refine e_int ?_) | (with_reducible refine e_str ?_) | (with_reducible refine n_int ?_) | (with_reducible refine n_str ?_) | (with_reducible refine l_tup ?_) | (with_reducible refine l_lsv ?_) | (with_reducible refine w_mth ?_) | (with_reducible refine is_str ?_) | (with_reducible refine u_tup ?_) | (with_reducible refine l_new ?_) | (with_reducible refine isN_non ?_) | (with_reducible refine notN_non ?_) | (with_reducible refine isN_tup ?_) | (with_reducible refine notN_tup ?_) | (with_reducible refine w_for ?_) | (with_reducible refine w_whl ?_) | (with_reducible refine w_ev ?_) | (with_reducible refine w_keys ?_) | (with_reducible refine w_rng ?_) | (with_reducible refine it_tup ?_) | (with_reducible refine w_dic ?_) | (with_reducible refine w_pc ?_) | (with_reducible refine w_pn ?_) | (with_reducible refine w_tg ?_) | (with_reducible refine w_ng ?_) | (with_reducible refine w_cn ?_) | (with_reducible refine w_cs ?_) | (with_reducible refine w_os ?_) | (with_reducible refine w_ov ?_) | ((with_reducible apply w_var); exact rfl) | ((with_reducible refine if_yes ?_ ?_); exact rfl) | ((with_reducible refine if_no ?_ ?_); exact rfl)))
theorem splitOn_ne (c : Nat) : ∀ s : Tx, splitOn c s ≠ []
  | [] => by simp [splitOn]
  | x :: r => by
    rw [splitOn]
    split
    · simp
    · split <;> simp
theorem splitOn_word {c : Nat} : ∀ w : Tx, c ∉ w → splitOn c w = [w]
  | [], _ => rfl
  | x :: w, h => by
    have h1 : x ≠ c := fun e => h (e ▸ List.mem_cons_self)
    have h2 : c ∉ w := fun e => h (List.mem_cons_of_mem _ e)
    rw [splitOn, if_neg h1, splitOn_word w h2]
theorem splitOn_more {c : Nat} (t : Tx) : ∀ w : Tx, c ∉ w → splitOn c (w ++ c :: t) = w :: splitOn c t
  | [], _ => by rw [List.nil_append, splitOn, if_pos rfl]
  | x :: w, h => by
    have h1 : x ≠ c := fun e => h (e ▸ List.mem_cons_self)
    have h2 : c ∉ w := fun e => h (List.mem_cons_of_mem _ e)
    rw [List.cons_append, splitOn, if_neg h1, splitOn_more t w h2]
theorem split_join {c : Nat} : ∀ ws : List Tx, ws ≠ [] → (∀ w ∈ ws, c ∉ w) → splitOn c (joinBy [c] ws) = ws
  | [], h, _ => absurd rfl h
  | [w], _, h => by
    show splitOn c w = [w]
    exact splitOn_word w (h w List.mem_cons_self)
  | w :: v :: ws, _, h => by
    show splitOn c (w ++ [c] ++ joinBy [c] (v :: ws)) = _
    rw [List.append_assoc, List.singleton_append, splitOn_more _ w (h w List.mem_cons_self), split_join (v :: ws) (by simp) fun x hx => h x (List.mem_cons_of_mem _ hx)]
theorem RdAt.lt {st : Sto} {A : RdA} {R : Rs} (h : RdAt st A R) : ∀ a ∈ A.all, a < st.length := by
  have hlt : ∀ p o, st[p]? = some o → p < st.length := fun p o hp => (List.getElem?_eq_some_iff.mp hp).1
  intro x hx
  simp only [RdA.all] at hx
  rcases List.mem_append.mp hx with hx | hx
  · simp at hx
    rcases hx with rfl | rfl | rfl | rfl | rfl | rfl
    · exact hlt _ _ h.ob
    · exact hlt _ _ h.ow
    · exact hlt _ _ h.il
    · exact hlt _ _ h.ol
    · exact hlt _ _ h.sl
    · exact hlt _ _ h.dl
  · obtain ⟨i, hi⟩ := List.getElem?_of_mem hx
    have hil := (List.getElem?_eq_some_iff.mp hi).1
    rw [h.la] at hil
    exact hlt _ _ (h.ea i _ x (List.getElem?_eq_getElem hil) hi)
theorem m_spl {s : Tx} {c : Nat} {st : Sto} {Q : Post} (hl : s.length + 2 ≤ big) (q : Q (.ref st.length) (st ++ [.lst ((splitOn c s).map .str)])) : opBmt .split (.str s) [.str [c]] st Q := ⟨s, c, rfl, rfl, hl, q⟩
theorem RdPost.app {A : RdA} {st : Sto} {t : Sto} {R' : Rs} {q : RdA → Sto → Prop} (h : RdPost A st R' q) : RdPost A (st ++ t) R' q := fun A' st' e r k n => h A' st' e r ((Keep.app _ _ _).trans k) fun a ha => (n a ha).imp id fun z => by simp at z; omega
section
variable {P : Prog} (B : HasRead P) {k : Nat} {st : Sto} {Q : Post} {X : Xp} {A : RdA} {R : Rs} (h : RdAt st A R) {num : Int}
include B h
theorem taken_line (hk : 4 ≤ k) (isIn : Bool) {n : Nat} {name : Tx} {worths : List Tx} {row : Tx} (hr : splitOn 32 row = (if isIn then tIN else tOUT) :: name :: [48 + n] :: worths) (hrl : row.length + 2 ≤ big)
    (hs : R.steps = []) (h1 : isIn = true → R.outs = []) (h2 : isIn = false → R.ins ≠ []) (hl : R.ins.length ≤ 3 ∧ R.outs.length ≤ 3) (hl2 : (if isIn then R.ins else R.outs).length < 3) (ok : ∀ l ∈ R.ins ++ R.outs, okLine l)
    (hn : nmB name = true) (hnew : name ∉ (R.ins ++ R.outs).map (·.1)) (hwt : 1 ≤ n ∧ n ≤ 2) (hwo : 1 ≤ worths.length ∧ worths.length ≤ 2) (hwn : ∀ w ∈ worths, nmB w = true) (hwd : worths.Nodup)
    (q : RdPost A st (if isIn then { R with ins := R.ins ++ [(name, (n : Int), worths)] } else { R with outs := R.outs ++ [(name, (n : Int), worths)] }) fun _ st' => Q (.bl true) st') : sem P k "Reading.is_taken" [.ref A.r, .int num, .str row] st Q X := by
  refine sem_go (by omega) B.tk rfl ?_
  show wpSs P _ [_, _, _, _] _ [some (.ref A.r), some (.int num), some (.str row), none] st
  decreasing_trivial_pre_omega
  refine ⟨rfl, ?_⟩
  decreasing_trivial_pre_omega
  refine m_spl hrl ?_
  rw [hr]
  have hS := h.keep (Keep.app [] st [.lst (((if isIn then tIN else tOUT) :: name :: [48 + n] :: worths).map .str)]) (by simp)
  decreasing_trivial_pre_omega
  refine g_lst get_new (at_n 0 rfl) ?_
  decreasing_trivial_pre_omega
  refine ⟨by simp [big], ?_⟩
  refine tin_strs (ws := [tIN, tOUT]) ?_
  rw [show decide ((if isIn then tIN else tOUT) ∈ [tIN, tOUT]) = true by cases isIn <;> rfl]
  decreasing_trivial_pre_omega
  refine w_gm hS.ob rfl B.mil ?_
  decreasing_trivial_pre_omega
  exact is_line_ok B hS (by omega) isIn (fun z => by have := h.lt _ z; omega) get_new hs h1 h2 hl hl2 ok hn hnew hwt hwo hwn hwd q.app
theorem taken_place (hk : 4 ≤ k) {name : Tx} {row : Tx} (hr : splitOn 32 row = [tAT, name]) (hrl : row.length + 2 ≤ big) (ho : R.outs ≠ []) (ok : ∀ l ∈ R.ins ++ R.outs, okLine l) (hn : nmB name = true) (hnew : name ∉ keysR R) (hl : R.steps.length < 40)
    (q : RdPost A st { R with steps := R.steps ++ [(name, [])] } fun _ st' => Q (.bl true) st') : sem P k "Reading.is_taken" [.ref A.r, .int num, .str row] st Q X := by
  refine sem_go (by omega) B.tk rfl ?_
  show wpSs P _ [_, _, _, _] _ [some (.ref A.r), some (.int num), some (.str row), none] st
  decreasing_trivial_pre_omega
  refine ⟨rfl, ?_⟩
  decreasing_trivial_pre_omega
  refine m_spl hrl ?_
  rw [hr]
  have hS := h.keep (Keep.app [] st [.lst ([tAT, name].map .str)]) (by simp)
  decreasing_trivial_pre_omega
  refine g_lst get_new (at_n 0 rfl) ?_
  decreasing_trivial_pre_omega
  refine ⟨by simp [big], ?_⟩
  refine tin_strs (ws := [tIN, tOUT]) ?_
  rw [show decide (tAT ∈ [tIN, tOUT]) = false from rfl]
  decreasing_trivial_pre_omega
  refine g_lst get_new (at_n 0 rfl) ?_
  decreasing_trivial_pre_omega
  refine w_gm hS.ob rfl B.mip ?_
  decreasing_trivial_pre_omega
  exact is_place_ok B hS (by omega) (fun z => by have := h.lt _ z; omega) get_new ho ok hn hnew hl q.app
theorem taken_step (hk : 5 ≤ k) {s : List Tx} {row : Tx} {ss : List (Tx × List (List Tx))} {p : Tx} {sl : List (List Tx)} (hr : splitOn 32 row = s) (hrl : row.length + 2 ≤ big) (hs : R.steps = ss ++ [(p, sl)]) (hn : (keysR R).Nodup)
    (hl : R.ins.length ≤ 3 ∧ R.outs.length ≤ 3) (hf : Formed R s) (ok : ∀ t ∈ s :: sl, ∀ w ∈ t, okTx w) (hnew : s ∉ sl) (hld : R.leads.length < 80) (hsl : sl.length < 80)
    (q : RdPost A st { R with steps := ss ++ [(p, sl ++ [s])], leads := R.leads ++ [(num, tgt s)] } fun _ st' => Q (.bl true) st') : sem P k "Reading.is_taken" [.ref A.r, .int num, .str row] st Q X := by
  refine sem_go (by omega) B.tk rfl ?_
  show wpSs P _ [_, _, _, _] _ [some (.ref A.r), some (.int num), some (.str row), none] st
  obtain ⟨w, r, rfl, hw⟩ : ∃ w r, s = w :: r ∧ (w = tTURN ∨ w = tTAKE ∨ w = tPUT) := by
    cases hf with
    | turn => exact ⟨_, _, rfl, .inl rfl⟩
    | take => exact ⟨_, _, rfl, .inr (.inl rfl)⟩
    | put => exact ⟨_, _, rfl, .inr (.inr rfl)⟩
  decreasing_trivial_pre_omega
  refine ⟨rfl, ?_⟩
  decreasing_trivial_pre_omega
  refine m_spl hrl ?_
  rw [hr]
  have hS := h.keep (Keep.app [] st [.lst ((w :: r).map .str)]) (by simp)
  decreasing_trivial_pre_omega
  refine g_lst get_new (at_n 0 rfl) ?_
  decreasing_trivial_pre_omega
  refine ⟨by simp [big], ?_⟩
  refine tin_strs (ws := [tIN, tOUT]) ?_
  rw [show decide (w ∈ [tIN, tOUT]) = false by rcases hw with rfl | rfl | rfl <;> rfl]
  decreasing_trivial_pre_omega
  refine g_lst get_new (at_n 0 rfl) ?_
  decreasing_trivial_pre_omega
  rw [show (w == [97, 116]) = false by rcases hw with rfl | rfl | rfl <;> rfl]
  decreasing_trivial_pre_omega
  refine g_lst get_new (at_n 0 rfl) ?_
  decreasing_trivial_pre_omega
  refine ⟨by simp [big], ?_⟩
  refine tin_strs (ws := [tTAKE, tPUT, tTURN]) ?_
  rw [show decide (w ∈ [tTAKE, tPUT, tTURN]) = true by rcases hw with rfl | rfl | rfl <;> rfl]
  decreasing_trivial_pre_omega
  refine w_gm hS.ob rfl B.mis ?_
  decreasing_trivial_pre_omega
  exact is_step_ok B hS (by omega) (fun z => by have := h.lt _ z; omega) get_new hs hn hl hf ok hnew hld hsl q.app
end
end Mi
-- B18
namespace Mi
/-- a row is taken -/
inductive Tk (num : Int) (R : Rs) : List Tx → Rs → Prop where
  | inn {n : Nat} {name : Tx} {worths : List Tx} : R.steps = [] → R.outs = [] → R.ins.length < 3 → nmB name = true → name ∉ (R.ins ++ R.outs).map (·.1) → 1 ≤ n ∧ n ≤ 2 → 1 ≤ worths.length ∧ worths.length ≤ 2 → (∀ w ∈ worths, nmB w = true) → worths.Nodup →
      Tk num R (tIN :: name :: [48 + n] :: worths) { R with ins := R.ins ++ [(name, (n : Int), worths)] }
  | out {n : Nat} {name : Tx} {worths : List Tx} : R.steps = [] → R.ins ≠ [] → R.outs.length < 3 → nmB name = true → name ∉ (R.ins ++ R.outs).map (·.1) → 1 ≤ n ∧ n ≤ 2 → 1 ≤ worths.length ∧ worths.length ≤ 2 → (∀ w ∈ worths, nmB w = true) → worths.Nodup →
      Tk num R (tOUT :: name :: [48 + n] :: worths) { R with outs := R.outs ++ [(name, (n : Int), worths)] }
  | place {name : Tx} : R.outs ≠ [] → nmB name = true → name ∉ keysR R → R.steps.length < 40 → Tk num R [tAT, name] { R with steps := R.steps ++ [(name, [])] }
  | step {s : List Tx} {ss : List (Tx × List (List Tx))} {p : Tx} {sl : List (List Tx)} : R.steps = ss ++ [(p, sl)] → (keysR R).Nodup → Formed R s → (∀ t ∈ s :: sl, ∀ w ∈ t, okTx w) → s ∉ sl → R.leads.length < 80 → sl.length < 80 →
      Tk num R s { R with steps := ss ++ [(p, sl ++ [s])], leads := R.leads ++ [(num, tgt s)] }
/-- what holds all along -/
structure RsOk (R : Rs) : Prop where
  li : R.ins.length ≤ 3 ∧ R.outs.length ≤ 3
  ok : ∀ l ∈ R.ins ++ R.outs, okLine l
theorem Tk.ok {num : Int} {R R' : Rs} {ws : List Tx} (t : Tk num R ws R') (h : RsOk R) : RsOk R' := by
  obtain ⟨⟨h1, h2⟩, h3⟩ := h
  cases t with
  | @inn n name worths a b c d e f g i j =>
    refine ⟨⟨by simp; omega, h2⟩, fun l hl => ?_⟩
    simp only [List.mem_append, List.mem_singleton] at hl
    rcases hl with (hl | rfl) | hl
    · exact h3 l (by simp [hl])
    · exact ⟨nm_ok d, fun w hw => nm_ok (i w hw)⟩
    · exact h3 l (by simp [hl])
  | @out n name worths a b c d e f g i j =>
    refine ⟨⟨h1, by simp; omega⟩, fun l hl => ?_⟩
    simp only [List.mem_append, List.mem_singleton] at hl
    rcases hl with hl | hl | rfl
    · exact h3 l (by simp [hl])
    · exact h3 l (by simp [hl])
    · exact ⟨nm_ok d, fun w hw => nm_ok (i w hw)⟩
  | place => exact ⟨⟨h1, h2⟩, h3⟩
  | step => exact ⟨⟨h1, h2⟩, h3⟩
/-- rows are taken, one by one -/
inductive Rd : Nat → Rs → List (List Tx) → Rs → Prop where
  | nil {n : Nat} {R : Rs} : Rd n R [] R
  | cons {n : Nat} {R R' R'' : Rs} {ws : List Tx} {rows : List (List Tx)} : Tk ((n : Int) + 1) R ws R' → Rd (n + 1) R' rows R'' → Rd n R (ws :: rows) R''
theorem Rd.app {n : Nat} {R R' R'' : Rs} {a b : List (List Tx)} (x : Rd n R a R') (y : Rd (n + a.length) R' b R'') : Rd n R (a ++ b) R'' := by
  induction x with
  | nil => exact y
  | @cons n R R1 R2 ws rows t _ ih => exact .cons t (ih (by rw [show n + 1 + rows.length = n + (ws :: rows).length by simp; omega]; exact y))
section
variable {P : Prog} (B : HasRead P) {k : Nat} {st : Sto} {Q : Post} {X : Xp} {A : RdA} {R : Rs} (h : RdAt st A R)
include B h
theorem taken_ok (hk : 5 ≤ k) {num : Int} {ws : List Tx} {row : Tx} {R' : Rs} (hr : splitOn 32 row = ws) (hrl : row.length + 2 ≤ big) (ok : RsOk R) (t : Tk num R ws R') (q : RdPost A st R' fun _ st' => Q (.bl true) st') : sem P k "Reading.is_taken" [.ref A.r, .int num, .str row] st Q X := by
  cases t with
  | @inn n name worths a b c d e f g i j => exact taken_line B h (by omega) true (n := n) (name := name) (worths := worths) hr hrl a (fun _ => b) (fun z => by cases z) ok.li c ok.ok d e f g i j q
  | @out n name worths a b c d e f g i j => exact taken_line B h (by omega) false (n := n) (name := name) (worths := worths) hr hrl a (fun z => by cases z) (fun _ => b) ok.li c ok.ok d e f g i j q
  | place a b c d => exact taken_place B h (by omega) hr hrl a ok.ok b c d q
  | step a b c d e f g => exact taken_step B h (by omega) hr hrl a b ok.li c d e f g q
end
end Mi
-- B19
namespace Mi
local macro_rules | `(tactic| decreasing_trivial_pre_omega) => `(tactic| repeat (first | (with_reducible refine w_seq ?_) | (with_reducible refine w_set ?_) | (with_reducible refine w_asg ?_) | (with_reducible refine w_par ?_) | (with_reducible refine w_setsub ?_) | (with_reducible refine w_iff ?_) | (with_reducible refine w_ret ?_) | (with_reducible refine w_expr ?_) | (with_reducible refine w_end ?_) | (with_reducible refine w_con ?_) | (with_reducible refine w_bin ?_) | (with_reducible refine w_neg ?_) | (with_reducible refine w_cmp ?_) | (with_reducible refine w_chn ?_) | (with_reducible refine w_and ?_) | (with_reducible refine w_or ?_) | (with_reducible refine w_not ?_) | (with_reducible refine w_ite ?_) | (with_reducible refine w_sub ?_) | (with_reducible refine w_sli ?_) | (with_reducible refine w_rev ?_) | (with_reducible refine w_fld ?_) | (with_reducible refine w_call ?_) | (with_reducible refine w_bmt ?_) | (with_reducible refine w_blt ?_) | (with_reducible refine w_isi ?_) | (with_reducible refine w_lst ?_) | (with_reducible refine w_tup ?_) | (with_reducible refine w_nil ?_) | (with_reducible refine w_arg ?_) | (with_reducible refine w_star ?_) | (with_reducible refine w_tr ?_) | (with_reducible refine o_add ?_) | (with_reducible refine o_sub ?_) | (with_reducible refine o_mod (by omega) ?_) | (with_reducible refine o_div (by omega) (by omega) ?_) | (with_reducible refine b_int ?_) | (with_reducible refine b_abs ?_) | (with_reducible refine b_max ?_) | (with_reducible refine b_min ?_) | (with_reducible refine c_lt ?_) | (with_reducible refine c_le ?_) | (with_reducible refine c_gt ?_) | (with_reducible refine c_ge ?_) | (with_reducible refine e_int ?_) | (with_reducible refine e_str ?_) | (with_reducible refine n_int ?_) | (with_reducible refine n_str ?_) | (with_reducible refine l_tup ?_) | (with_reducible refine l_lsv ?_) | (with_reducible refine w_mth ?_) | (with_reducible refine is_str ?_) | (with_reducible refine u_tup ?_) | (with_reducible refine l_new ?_) | (with_reducible refine isN_non ?_) | (with_reducible refine notN_non ?_) | (with_reducible refine isN_tup ?_) | (with_reducible refine notN_tup ?_) | (with_reducible refine w_for ?_) | (with_reducible refine w_whl ?_) | (with_reducible refine w_ev ?_) | (with_reducible refine w_keys ?_) | (with_reducible refine w_rng ?_) | (with_reducible refine it_tup ?_) | (with_reducible refine w_lc ?_) | (with_reducible refine w_dic ?_) | (with_reducible refine w_pc ?_) | (with_reducible refine w_pn ?_) | (with_reducible refine w_tg ?_) | (with_reducible refine w_ng ?_) | (with_reducible refine w_cn ?_) | (with_reducible refine w_cs ?_) | (with_reducible refine w_os ?_) | (with_reducible refine w_ov ?_) | ((with_reducible apply w_var); exact rfl) | ((with_reducible refine if_yes ?_ ?_); exact rfl) | ((with_reducible refine if_no ?_ ?_); exact rfl)))
local macro_rules | `(tactic| array_get_dec) => `(tactic| repeat (first | (with_reducible refine w_seq ?_) | (with_reducible refine w_set ?_) | (with_reducible refine w_asg ?_) | (with_reducible refine w_par ?_) | (with_reducible refine w_setsub ?_) | (with_reducible refine w_iff ?_) | (with_reducible refine w_ret ?_) | (with_reducible refine w_expr ?_) | (with_reducible refine w_end ?_) | (with_reducible refine w_con ?_) | (with_reducible refine w_bin ?_) | (with_reducible refine w_neg ?_) | (with_reducible refine w_cmp ?_) | (with_reducible refine w_chn ?_) | (with_reducible refine w_and ?_) | (with_reducible refine w_or ?_) | (with_reducible refine w_not ?_) | (with_reducible refine w_ite ?_) | (with_reducible refine w_sub ?_) | (with_reducible refine w_sli ?_) | (with_reducible refine w_rev ?_) | (with_reducible refine w_fld ?_) | (with_reducible refine w_call ?_) | (with_reducible refine w_bmt ?_) | (with_reducible refine w_blt ?_) | (with_reducible refine w_isi ?_) | (with_reducible refine w_lst ?_) | (with_reducible refine w_tup ?_) | (with_reducible refine w_nil ?_) | (with_reducible refine w_arg ?_) | (with_reducible refine w_star ?_) | (with_reducible refine w_tr ?_) | (with_reducible refine o_add ?_) | (with_reducible refine o_sub ?_) | (with_reducible refine o_mod (by omega) ?_) | (with_reducible refine o_div (by omega) (by omega) ?_) | (with_reducible refine b_int ?_) | (with_reducible refine b_abs ?_) | (with_reducible refine b_max ?_) | (with_reducible refine b_min ?_) | (with_reducible refine c_lt ?_) | (with_reducible refine c_le ?_) | (with_reducible refine c_gt ?_) | (with_reducible refine c_ge ?_) | (with_reducible refine e_int ?_) | (with_reducible refine e_str ?_) | (with_reducible refine n_int ?_) | (with_reducible refine n_str ?_) | (with_reducible refine l_tup ?_) | (with_reducible refine l_lsv ?_) | (with_reducible refine w_mth ?_) | (with_reducible refine is_str ?_) | (with_reducible refine u_tup ?_) | (with_reducible refine l_new ?_) | (with_reducible refine isN_non ?_) | (with_reducible refine notN_non ?_) | (with_reducible refine isN_tup ?_) | (with_reducible refine notN_tup ?_) | (with_reducible refine w_for ?_) | (with_reducible refine w_whl ?_) | (with_reducible refine w_ev ?_) | (with_reducible refine w_keys ?_) | (with_reducible refine w_rng ?_) | (with_reducible refine it_tup ?_) | (with_reducible refine w_dic ?_) | (with_reducible refine w_pc ?_) | (with_reducible refine w_pn ?_) | (with_reducible refine w_tg ?_) | (with_reducible refine w_ng ?_) | (with_reducible refine w_cn ?_) | (with_reducible refine w_cs ?_) | (with_reducible refine w_os ?_) | (with_reducible refine w_ov ?_) | ((with_reducible apply w_var); exact rfl) | ((with_reducible refine if_yes ?_ ?_); exact rfl) | ((with_reducible refine if_no ?_ ?_); exact rfl)))
theorem w_new {P : Prog} {F : Phi} {σ : Env} {st : Sto} {Q : Post} {X : Xp} {c : String} {es : IA} (h : wpA P F es σ st (fun vs st1 => ∃ q, P.mt c "__init__" = some q ∧ F q (.ref st1.length :: vs) (st1 ++ [.ins c []]) (fun v st2 => v = .non ∧ Q (.ref st1.length) st2) X) X) : wpE P F (.new c es) σ st Q X := h
theorem w_enu {P : Prog} {F : Phi} {σ : Env} {st : Sto} {X : Xp} {e : IE} {R : It → Sto → (Sto → (Sto → Prop) → Prop) → Prop} (h : wpE P F e σ st (fun v st1 => ∃ a xs, v = .ref a ∧ st1[a]? = some (.lst xs) ∧ R ⟨enumFrom 0 xs, fun st' => st'[a]? = some (.lst xs)⟩ st1 fun st3 k => k st3) X) : wpI P F (.enu e) σ st R X := h
theorem enum_at : ∀ {xs : List MV} {n : Nat} {pre r : List MV} {x : MV}, enumFrom n xs = pre ++ x :: r → ∃ y, xs[pre.length]? = some y ∧ x = .tup [.int ((n + pre.length : Nat) : Int), y]
  | [], n, pre, r, x, e => by simp [enumFrom] at e
  | z :: xs, n, [], r, x, e => by
    simp only [enumFrom, List.nil_append, List.cons.injEq] at e
    exact ⟨z, rfl, e.1.symm⟩
  | z :: xs, n, p :: pre, r, x, e => by
    simp only [enumFrom, List.cons_append, List.cons.injEq] at e
    obtain ⟨y, h1, h2⟩ := enum_at e.2
    exact ⟨y, by simpa using h1, by rw [h2]; congr 3; simp; omega⟩
theorem enum_len : ∀ (xs : List MV) (n : Nat), (enumFrom n xs).length = xs.length
  | [], _ => rfl
  | _ :: xs, n => by simp [enumFrom, enum_len xs]
theorem eq_dvoid {p q : Nat} {kvs : List (MV × MV)} {st : Sto} {Q : Bool → Sto → Prop} (hp : st[p]? = some (.dic false kvs)) (hq : st[q]? = some (.dic false [])) (h : Q kvs.isEmpty st) : opCmp .eq (.ref p) (.ref q) st Q := by
  refine .inr ⟨p, q, kvs, [], rfl, rfl, hp, hq, fun e => by cases kvs; rfl; simp at e, ?_⟩
  cases kvs with
  | nil => exact h
  | cons a r => exact h
section
variable {P : Prog} (B : HasRead P) {k : Nat} {st : Sto} {Q : Post} {X : Xp}
include B
theorem reading_ok (hk : 1 ≤ k) {n : Nat} (hn : st[n]? = some (.ins "Reading" [])) (q : ∀ A st', A.r = n → RdAt st' A ⟨[], [], [], []⟩ → Keep [n] st st' → (∀ a ∈ A.all, a = n ∨ st.length ≤ a) → Q .non st') : sem P k "Reading.__init__" [.ref n] st Q X := by
  refine sem_go hk B.rd rfl ?_
  show wpSs P _ [_, _, _, _] _ [some (.ref n)] st
  have hlt := (List.getElem?_eq_some_iff.mp hn).1
  decreasing_trivial_pre_omega
  refine w_setfld ?_
  decreasing_trivial_pre_omega
  refine ⟨by simp [big], ?_⟩
  decreasing_trivial_pre_omega
  refine ⟨by simp [big], ?_⟩
  decreasing_trivial_pre_omega
  refine ⟨rfl, by simp, ?_⟩
  decreasing_trivial_pre_omega
  refine w_fs (fs := []) (by rw [List.getElem?_append_left (by simp <;> omega), List.getElem?_append_left (by simp <;> omega), List.getElem?_append_left (by omega)]; exact hn) B.pow (by simp) ?_
  decreasing_trivial_pre_omega
  refine w_setfld ?_
  decreasing_trivial_pre_omega
  refine ⟨rfl, by simp, ?_⟩
  decreasing_trivial_pre_omega
  refine w_fs (get_app (get_set (by rw [List.getElem?_append_left (by simp <;> omega), List.getElem?_append_left (by simp <;> omega), List.getElem?_append_left (by omega)]; exact hn))) B.pst (by simp [putFld]) ?_
  decreasing_trivial_pre_omega
  refine w_setfld ?_
  decreasing_trivial_pre_omega
  refine w_fs (get_set (get_app (get_set (by rw [List.getElem?_append_left (by simp <;> omega), List.getElem?_append_left (by simp <;> omega), List.getElem?_append_left (by omega)]; exact hn)))) B.ppl (by simp [putFld]) ?_
  decreasing_trivial_pre_omega
  refine w_setfld ?_
  decreasing_trivial_pre_omega
  refine ⟨by simp [big], ?_⟩
  decreasing_trivial_pre_omega
  refine w_fs (get_app (get_set (get_set (get_app (get_set (by rw [List.getElem?_append_left (by simp <;> omega), List.getElem?_append_left (by simp <;> omega), List.getElem?_append_left (by omega)]; exact hn)))))) B.pld (by simp [putFld]) ?_
  decreasing_trivial_pre_omega
  refine q ⟨n, st.length + 2, st.length, st.length + 1, st.length + 3, st.length + 4, []⟩ _ rfl ⟨?_, ?_, ?_, ?_, ?_, rfl, ?_, ?_, ?_⟩ ?_ ?_
  · rw [List.getElem?_set_self (by simp <;> omega)]
    simp [putFld, Rs.placeV]
  · rw [List.getElem?_set_ne (by simp <;> omega)]
    rw [List.getElem?_append_left (by simp <;> omega)]
    rw [List.getElem?_set_ne (by simp <;> omega), List.getElem?_set_ne (by simp <;> omega)]
    rw [List.getElem?_append_left (by simp <;> omega)]
    rw [List.getElem?_set_ne (by simp <;> omega)]
    rw [List.getElem?_append_right (by simp)]
    simp [kPut, tIN, tOUT, keyEq]
  · rw [List.getElem?_set_ne (by simp <;> omega)]
    rw [List.getElem?_append_left (by simp <;> omega)]
    rw [List.getElem?_set_ne (by simp <;> omega), List.getElem?_set_ne (by simp <;> omega)]
    rw [List.getElem?_append_left (by simp <;> omega)]
    rw [List.getElem?_set_ne (by simp <;> omega)]
    rw [List.getElem?_append_left (by simp <;> omega), List.getElem?_append_left (by simp <;> omega), List.getElem?_append_right (by simp)]
    simp
  · rw [List.getElem?_set_ne (by simp <;> omega)]
    rw [List.getElem?_append_left (by simp <;> omega)]
    rw [List.getElem?_set_ne (by simp <;> omega), List.getElem?_set_ne (by simp <;> omega)]
    rw [List.getElem?_append_left (by simp <;> omega)]
    rw [List.getElem?_set_ne (by simp <;> omega)]
    rw [List.getElem?_append_left (by simp <;> omega), List.getElem?_append_right (by simp)]
    simp
  · rw [List.getElem?_set_ne (by simp <;> omega)]
    rw [List.getElem?_append_left (by simp <;> omega)]
    rw [List.getElem?_set_ne (by simp <;> omega), List.getElem?_set_ne (by simp <;> omega)]
    rw [List.getElem?_append_right (by simp)]
    simp [stpV]
  · intro i e a h1; simp at h1
  · rw [List.getElem?_set_ne (by simp <;> omega)]
    rw [List.getElem?_append_right (by simp)]
    simp
  · simp [RdA.all]; omega
  · refine ⟨by simp; omega, fun b o nb hb => ?_⟩
    have hbl := (List.getElem?_eq_some_iff.mp hb).1
    have nb : n ≠ b := fun e => nb (by simp [e])
    rw [List.getElem?_set_ne nb, List.getElem?_append_left (by simp <;> omega), List.getElem?_set_ne nb, List.getElem?_set_ne nb, List.getElem?_append_left (by simp <;> omega), List.getElem?_set_ne nb, List.getElem?_append_left (by simp <;> omega), List.getElem?_append_left (by simp <;> omega), List.getElem?_append_left (by omega)]
    exact hb
  · intro a ha; simp [RdA.all] at ha; omega
theorem read_lines_ok (hk : 7 ≤ k) {text : Tx} {rows : List (List Tx)} {R : Rs} (hr : (splitOn 10 text).map (splitOn 32) = rows) (hl : text.length + 2 ≤ big) (hrl : ∀ r ∈ splitOn 10 text, r.length + 2 ≤ big) (hn : rows.length < 100000)
    (rd : Rd 0 ⟨[], [], [], []⟩ rows R) (hne : R.steps ≠ []) (hld : ∀ l ∈ R.leads, l.2 ∈ keysR R)
    (q : ∀ A st', RdAt st' A R → Keep [] st st' → (∀ a ∈ A.all, st.length ≤ a) → Q (.ref A.r) st') : sem P k "read_lines" [.str text] st Q X := by
  refine sem_go (by omega) B.rl rfl ?_
  show wpSs P _ [_, _, _, _, _, _] _ [some (.str text), none, none, none, none, none, none] st
  decreasing_trivial_pre_omega
  refine w_new ?_
  decreasing_trivial_pre_omega
  refine ⟨_, B.mrd, ?_⟩
  refine reading_ok B (by omega) get_new fun A st1 hA h1 k1 hA2 => ⟨rfl, ?_⟩
  have ks1 : Keep [] st st1 := by
    refine ⟨by have := k1.le; simp at this; omega, fun b o _ hb => k1.at_ _ _ ?_ (get_app hb)⟩
    have := (List.getElem?_eq_some_iff.mp hb).1
    simp; omega
  have hA3 : ∀ a ∈ A.all, st.length ≤ a := fun a ha => by
    rcases hA2 a ha with z | z
    · omega
    · simp at z; omega
  decreasing_trivial_pre_omega
  refine ⟨rfl, ?_⟩
  decreasing_trivial_pre_omega
  refine m_spl hl ?_
  decreasing_trivial_pre_omega
  refine ⟨rfl, ?_⟩
  generalize hS : st1 ++ [MO.lst ((splitOn 10 text).map .str)] = S
  have kS : Keep [] st S := by rw [← hS]; exact ks1.trans (Keep.app _ _ _)
  have hrw : S[st1.length]? = some (.lst ((splitOn 10 text).map .str)) := by rw [← hS]; exact get_new
  have hS2 : RdAt S A ⟨[], [], [], []⟩ := by rw [← hS]; exact h1.keep (Keep.app [] _ _) (by simp)
  have hAlt := h1.lt
  decreasing_trivial_pre_omega
  refine w_enu ?_
  decreasing_trivial_pre_omega
  refine ⟨_, _, rfl, hrw, ?_⟩
  refine loop_go (fun pre σ st' => ∃ A' R' x3 x4, A'.r = A.r ∧ σ = [some (.str text), some (.ref A.r), some (.ref st1.length), x3, x4, none, none] ∧ Keep [] st st' ∧ st'[st1.length]? = some (.lst ((splitOn 10 text).map .str)) ∧ RdAt st' A' R' ∧ RsOk R' ∧ (∀ a ∈ A'.all, st.length ≤ a) ∧ st1.length ∉ A'.all ∧
    Rd pre.length R' (rows.drop pre.length) R) ?_ ?_ ?_ ?_
  · exact ⟨A, ⟨[], [], [], []⟩, none, none, rfl, by rw [hA]; rfl, kS, hrw, hS2, ⟨by simp, by simp⟩, hA3, fun z => absurd (hAlt _ z) (Nat.lt_irrefl _), rd⟩
  · rintro p a st' ⟨A', R', x3, x4, _, _, _, h, _⟩
    exact h
  · rintro pre x r σ st' kk e ⟨A', R', x3, x4, hAr, rfl, k', hrw', hR, ok, hge, hnm, rd'⟩ hkk
    obtain ⟨y, hy, rfl⟩ := enum_at e
    rw [List.getElem?_map] at hy
    cases hrow : (splitOn 10 text)[pre.length]? with
    | none => rw [hrow] at hy; cases hy
    | some row =>
      rw [hrow] at hy
      cases hy
      have hws : rows[pre.length]? = some (splitOn 32 row) := by rw [← hr, List.getElem?_map, hrow]; rfl
      have hplt := (List.getElem?_eq_some_iff.mp hws).1
      have hdr : rows.drop pre.length = splitOn 32 row :: rows.drop (pre.length + 1) := by
        rw [List.drop_eq_getElem_cons hplt]
        have := (List.getElem?_eq_some_iff.mp hws).2
        rw [this]
      rw [hdr] at rd'
      refine w_tt rfl ?_
      cases rd' with
      | cons t rd'' =>
        decreasing_trivial_pre_omega
        rw [← hAr]
        refine w_gm hR.ob rfl B.mtk ?_
        decreasing_trivial_pre_omega
        refine taken_ok B hR (by omega) rfl (hrl row (List.mem_of_getElem? hrow)) ok (by simpa using t) fun A2 st2 e2 h2 k2 n2 => ?_
        decreasing_trivial_pre_omega
        refine hkk _ _ ⟨A2, _, _, _, e2.trans hAr, by rw [hAr]; rfl, ?_, ?_, h2, t.ok ok, ?_, ?_, by simpa using rd''⟩
        · exact ⟨Nat.le_trans k'.le k2.le, fun b o _ hb => k2.at_ _ _ (fun z => by have := hge _ z; have := (List.getElem?_eq_some_iff.mp hb).1; omega) (k'.at_ _ _ (by simp) hb)⟩
        · exact k2.at_ _ _ hnm hrw'
        · intro a ha
          rcases n2 a ha with z | z
          · exact hge a z
          · have := k'.le; omega
        · intro z
          rcases n2 _ z with z | z
          · exact hnm z
          · have := (List.getElem?_eq_some_iff.mp hrw').1; omega
  · rintro σ st' ⟨A', R', x3, x4, hAr, rfl, k', hrw', hR, ok, hge, hnm, rd'⟩
    rw [enum_len, List.length_map, List.drop_of_length_le (by rw [← hr]; simp)] at rd'
    cases rd'
    decreasing_trivial_pre_omega
    rw [← hAr]
    refine f_at hR.ob B.pst rfl ?_
    decreasing_trivial_pre_omega
    refine ⟨rfl, by simp, ?_⟩
    have kT := Keep.app [] st' [MO.dic false []]
    have hT := hR.keep kT (by simp)
    have hks : keysOf (stpV R.steps A'.as) = (keysR R).map .str := stpV_keys R.steps A'.as hR.la
    have hlen : (stpV R.steps A'.as).length = R.steps.length := by simp [stpV, hR.la]
    refine eq_dvoid hT.sl get_new ?_
    rw [show (stpV R.steps A'.as).isEmpty = false by
      cases hh : stpV R.steps A'.as with
      | nil => rw [hh] at hlen; exact absurd (List.length_eq_zero_iff.mp hlen.symm) hne
      | cons a r => rfl]
    decreasing_trivial_pre_omega
    generalize hT' : st' ++ [MO.dic false (List.foldl (fun (acc : List (MV × MV)) (kv : MV × MV) => kPut kv.1 kv.2 acc) [] [])] = T
    have hT : RdAt T A' R := by rw [← hT']; exact hT
    have kT2 : Keep [] st T := by rw [← hT']; exact k'.trans (Keep.app [] st' _)
    refine f_at hT.ob B.pld rfl ?_
    refine it_lst hT.dl ?_
    refine loop_go (fun pre σ st' => ∃ x5 x6, st' = T ∧ σ = [some (.str text), some (.ref A'.r), some (.ref st1.length), x3, x4, x5, x6]) ?_ ?_ ?_ ?_
    · exact ⟨none, none, rfl, rfl⟩
    · rintro p a st' ⟨x5, x6, rfl, _⟩; exact hT.dl
    · rintro pre x r σ st2 kk e ⟨x5, x6, rfl, rfl⟩ hkk
      obtain ⟨l, hl, rfl⟩ := item_at e
      refine w_tt rfl ?_
      decreasing_trivial_pre_omega
      refine f_at hT.ob B.pst rfl ?_
      refine ni_dic hT.sl rfl ?_
      rw [look_keys hks, decide_eq_true (hld l (List.mem_of_getElem? hl))]
      decreasing_trivial_pre_omega
      exact hkk _ _ ⟨_, _, rfl, rfl⟩
    · rintro σ st2 ⟨x5, x6, rfl, rfl⟩
      decreasing_trivial_pre_omega
      exact q A' _ hT kT2 hge
end
end Mi
-- B20
namespace Mi
/-! ### what a reading is, in the end -/
structure RsInv (R : Rs) : Prop where
  rk : RsOk R
  nl : ((R.ins ++ R.outs).map (·.1)).Nodup
  nk : (keysR R).Nodup
  few : R.steps.length ≤ 40
  nm : ∀ e ∈ R.steps, nmB e.1 = true
  fm : ∀ e ∈ R.steps, ∀ s ∈ e.2, Formed R s ∧ ∃ l ∈ R.leads, l.2 = tgt s
  sm : (R.steps.map fun e => e.2.length).sum = R.leads.length
  ml : R.leads.length ≤ 80
theorem Formed.same {R R' : Rs} {s : List Tx} (h : Formed R s) (e1 : R'.ins = R.ins) (e2 : R'.outs = R.outs) : Formed R' s := by
  cases h with
  | turn a => exact .turn a
  | take a b c => exact .take a (e1 ▸ b) c
  | put a b c => exact .put a (e2 ▸ b) c
theorem nodup_snoc {α : Type} {l : List α} {x : α} (h : l.Nodup) (n : x ∉ l) : (l ++ [x]).Nodup :=
  List.nodup_append.mpr ⟨h, by simp, fun y hy z hz e => by simp at hz; subst hz; exact n (e ▸ hy)⟩
theorem RsInv.void : RsInv ⟨[], [], [], []⟩ := ⟨⟨by simp, by simp⟩, by simp, by simp [keysR], by simp, by simp, by simp, by simp, by simp⟩
theorem Tk.inv {num : Int} {R R' : Rs} {ws : List Tx} (t : Tk num R ws R') (h : RsInv R) : RsInv R' := by
  have rk' := t.ok h.rk
  cases t with
  | @inn n name worths a b c d e f g i j =>
    refine ⟨rk', ?_, h.nk, h.few, h.nm, ?_, h.sm, h.ml⟩
    · have ee : ((R.ins ++ [(name, (n : Int), worths)] ++ R.outs).map (·.1)) = R.ins.map (·.1) ++ [name] := by simp [b]
      show ((R.ins ++ [(name, (n : Int), worths)] ++ R.outs).map (·.1)).Nodup
      rw [ee]
      have h1 := h.nl
      rw [b] at h1 e
      simp only [List.append_nil] at h1 e
      exact nodup_snoc h1 e
    · intro e he; rw [show (⟨R.ins ++ [(name, (n : Int), worths)], R.outs, R.steps, R.leads⟩ : Rs).steps = [] from a] at he; simp at he
  | @out n name worths a b c d e f g i j =>
    refine ⟨rk', ?_, h.nk, h.few, h.nm, ?_, h.sm, h.ml⟩
    · have ee : ((R.ins ++ (R.outs ++ [(name, (n : Int), worths)])).map (·.1)) = (R.ins ++ R.outs).map (·.1) ++ [name] := by simp
      show ((R.ins ++ (R.outs ++ [(name, (n : Int), worths)])).map (·.1)).Nodup
      rw [ee]
      exact nodup_snoc h.nl e
    · intro e he; rw [show (⟨R.ins, R.outs ++ [(name, (n : Int), worths)], R.steps, R.leads⟩ : Rs).steps = [] from a] at he; simp at he
  | @place name a b c d =>
    refine ⟨rk', h.nl, ?_, by simp; omega, ?_, ?_, by simpa using h.sm, h.ml⟩
    · show (List.map (fun x : Tx × List (List Tx) => x.1) (R.steps ++ [(name, [])])).Nodup
      rw [List.map_append]
      exact nodup_snoc h.nk c
    · intro e he
      rcases List.mem_append.mp he with z | z
      · exact h.nm e z
      · simp at z; rw [z]; exact b
    · intro e he s hs
      rcases List.mem_append.mp he with z | z
      · obtain ⟨f1, f2⟩ := h.fm e z s hs
        exact ⟨f1.same rfl rfl, f2⟩
      · simp at z; rw [z] at hs; simp at hs
  | @step s ss p sl a b c d e f g =>
    refine ⟨rk', h.nl, ?_, ?_, ?_, ?_, ?_, ?_⟩
    · have := h.nk
      unfold keysR at this ⊢
      rw [a] at this
      simpa using this
    · have := h.few
      rw [a] at this
      simpa using this
    · intro x hx
      rcases List.mem_append.mp hx with z | z
      · exact h.nm x (by rw [a]; exact List.mem_append_left _ z)
      · simp at z; rw [z]; exact h.nm (p, sl) (by rw [a]; simp)
    · intro x hx u hu
      have old : ∀ y ∈ R.steps, u ∈ y.2 → Formed ⟨R.ins, R.outs, ss ++ [(p, sl ++ [ws])], R.leads ++ [(num, tgt ws)]⟩ u ∧ ∃ l ∈ R.leads ++ [(num, tgt ws)], l.2 = tgt u := fun y hy huy => by
        obtain ⟨f1, l, f2, f3⟩ := h.fm y hy u huy
        exact ⟨f1.same rfl rfl, l, List.mem_append_left _ f2, f3⟩
      rcases List.mem_append.mp hx with z | z
      · exact old x (by rw [a]; exact List.mem_append_left _ z) hu
      · simp at z; rw [z] at hu
        rcases List.mem_append.mp hu with w | w
        · exact old (p, sl) (by rw [a]; simp) w
        · simp at w; subst w
          exact ⟨c.same rfl rfl, (num, tgt u), by simp, rfl⟩
    · have := h.sm
      rw [a] at this
      simp at this ⊢
      omega
    · simp; omega
theorem Rd.inv {n : Nat} {R R' : Rs} {rows : List (List Tx)} (x : Rd n R rows R') (h : RsInv R) : RsInv R' := by
  induction x with
  | nil => exact h
  | cons t _ ih => exact ih (t.inv h)
/-- the box of a reading -/
def Rs.box (R : Rs) (text : Tx) : BoxD := ⟨text, R.ins, R.outs, R.steps⟩
theorem look_line {ls : List (Tx × Int × List Tx)} {l : Tx} {n : Int} {ws : List Tx} (h : (l, n, ws) ∈ ls) : ((ls.map fun l => (l.1, l.2.1)).lookup l).isSome = true := by
  induction ls with
  | nil => simp at h
  | cons a r ih =>
    rw [List.map_cons, List.lookup_cons]
    by_cases e : l = a.1
    · subst e; simp
    · have e2 : (l == a.1) = false := by simp [e]
      rw [e2]
      rcases List.mem_cons.mp h with z | z
      · exact absurd (by rw [← z]) e
      · exact ih z
theorem mem_of_at {D : BoxD} {p : Tx} {s : List Tx} (h : s ∈ D.at_ p) : ∃ e ∈ D.steps, e.1 = p ∧ s ∈ e.2 := by
  unfold BoxD.at_ at h
  generalize D.steps = l at h
  induction l with
  | nil => simp at h
  | cons a r ih =>
    obtain ⟨q, ss⟩ := a
    rw [List.lookup_cons] at h
    by_cases e : p = q
    · subst e
      simp at h
      exact ⟨(p, ss), by simp, rfl, h⟩
    · have e2 : (p == q) = false := by simp [e]
      rw [e2] at h
      obtain ⟨x, h1, h2⟩ := ih h
      exact ⟨x, List.mem_cons_of_mem _ h1, h2⟩
theorem Formed.fits {R : Rs} {text : Tx} {s : List Tx} (h : Formed R s) : (R.box text).fits s ∧ s ≠ [] := by
  cases h with
  | turn => exact ⟨True.intro, by simp⟩
  | take a b c => exact ⟨⟨.inl rfl, look_line (List.mem_append_left _ b)⟩, by simp⟩
  | put a b c => exact ⟨⟨.inr rfl, look_line (List.mem_append_right _ b)⟩, by simp⟩
theorem RsInv.wf {R : Rs} (h : RsInv R) (hne : R.steps ≠ []) (hld : ∀ l ∈ R.leads, l.2 ∈ keysR R) (text : Tx) : (R.box text).WF := by
  refine ⟨h.nk, h.few, hne, ?_, ?_⟩
  · intro p hp
    obtain ⟨e, he, rfl⟩ := List.mem_map.mp hp
    exact nm_ok (h.nm e he)
  · intro p s hs
    obtain ⟨e, he, _, hse⟩ := mem_of_at hs
    obtain ⟨f, l, hl, hl2⟩ := h.fm e he s hse
    obtain ⟨f1, f2⟩ := f.fits (text := text)
    exact ⟨f1, f2, hl2 ▸ hld l hl⟩
theorem at_of {D : BoxD} (nd : D.places.Nodup) {e : Tx × List (List Tx)} (he : e ∈ D.steps) : D.at_ e.1 = e.2 := by
  unfold BoxD.at_
  unfold BoxD.places at nd
  generalize D.steps = l at he nd
  induction l with
  | nil => simp at he
  | cons a r ih =>
    rw [List.map_cons, List.nodup_cons] at nd
    rw [List.lookup_cons]
    rcases List.mem_cons.mp he with z | z
    · subst z; simp
    · have e2 : (e.1 == a.1) = false := by
        simp only [beq_eq_false_iff_ne, ne_eq]
        exact fun w => nd.1 (w ▸ List.mem_map_of_mem z)
      rw [e2]
      exact ih z nd.2
theorem left_le {D : BoxD} (nd : D.places.Nodup) : D.left [] ≤ (D.steps.map fun e => e.2.length).sum := by
  have e1 : D.left [] = (D.steps.map fun e => D.turns e.1).sum := by
    unfold BoxD.left BoxD.places
    rw [List.filter_eq_self.mpr (by simp), List.map_map]
    rfl
  rw [e1]
  have : ∀ l : List (Tx × List (List Tx)), (∀ e ∈ l, e ∈ D.steps) → (l.map fun e => D.turns e.1).sum ≤ (l.map fun e => e.2.length).sum := by
    intro l
    induction l with
    | nil => intro _; simp
    | cons a r ih =>
      intro h
      have h1 := ih fun e he => h e (List.mem_cons_of_mem _ he)
      have h2 : D.turns a.1 ≤ a.2.length := by
        unfold BoxD.turns
        rw [at_of nd (h a List.mem_cons_self)]
        exact List.length_filter_le _ _
      simp only [List.map_cons, List.sum_cons]
      omega
  exact this _ fun _ h => h
end Mi
-- B21
namespace Mi
local macro_rules | `(tactic| decreasing_trivial_pre_omega) => `(tactic| repeat (first | (with_reducible refine w_seq ?_) | (with_reducible refine w_set ?_) | (with_reducible refine w_asg ?_) | (with_reducible refine w_par ?_) | (with_reducible refine w_setsub ?_) | (with_reducible refine w_iff ?_) | (with_reducible refine w_ret ?_) | (with_reducible refine w_expr ?_) | (with_reducible refine w_end ?_) | (with_reducible refine w_con ?_) | (with_reducible refine w_bin ?_) | (with_reducible refine w_neg ?_) | (with_reducible refine w_cmp ?_) | (with_reducible refine w_chn ?_) | (with_reducible refine w_and ?_) | (with_reducible refine w_or ?_) | (with_reducible refine w_not ?_) | (with_reducible refine w_ite ?_) | (with_reducible refine w_sub ?_) | (with_reducible refine w_sli ?_) | (with_reducible refine w_rev ?_) | (with_reducible refine w_fld ?_) | (with_reducible refine w_call ?_) | (with_reducible refine w_bmt ?_) | (with_reducible refine w_blt ?_) | (with_reducible refine w_isi ?_) | (with_reducible refine w_lst ?_) | (with_reducible refine w_tup ?_) | (with_reducible refine w_nil ?_) | (with_reducible refine w_arg ?_) | (with_reducible refine w_star ?_) | (with_reducible refine w_tr ?_) | (with_reducible refine o_add ?_) | (with_reducible refine o_sub ?_) | (with_reducible refine o_mod (by omega) ?_) | (with_reducible refine o_div (by omega) (by omega) ?_) | (with_reducible refine b_int ?_) | (with_reducible refine b_abs ?_) | (with_reducible refine b_max ?_) | (with_reducible refine b_min ?_) | (with_reducible refine c_lt ?_) | (with_reducible refine c_le ?_) | (with_reducible refine c_gt ?_) | (with_reducible refine c_ge ?_) | (with_reducible refine e_int ?_) | (with_reducible refine e_str ?_) | (with_reducible refine n_int ?_) | (with_reducible refine n_str ?_) | (with_reducible refine l_tup ?_) | (with_reducible refine l_lsv ?_) | (with_reducible refine w_mth ?_) | (with_reducible refine is_str ?_) | (with_reducible refine u_tup ?_) | (with_reducible refine l_new ?_) | (with_reducible refine isN_non ?_) | (with_reducible refine notN_non ?_) | (with_reducible refine isN_tup ?_) | (with_reducible refine notN_tup ?_) | (with_reducible refine w_for ?_) | (with_reducible refine w_whl ?_) | (with_reducible refine w_ev ?_) | (with_reducible refine w_keys ?_) | (with_reducible refine w_rng ?_) | (with_reducible refine it_tup ?_) | (with_reducible refine w_lc ?_) | (with_reducible refine w_dic ?_) | (with_reducible refine w_pc ?_) | (with_reducible refine w_pn ?_) | (with_reducible refine w_tg ?_) | (with_reducible refine w_ng ?_) | (with_reducible refine w_cn ?_) | (with_reducible refine w_cs ?_) | (with_reducible refine w_os ?_) | (with_reducible refine w_ov ?_) | ((with_reducible apply w_var); exact rfl) | ((with_reducible refine if_yes ?_ ?_); exact rfl) | ((with_reducible refine if_no ?_ ?_); exact rfl)))
local macro_rules | `(tactic| array_get_dec) => `(tactic| repeat (first | (with_reducible refine w_seq ?_) | (with_reducible refine w_set ?_) | (with_reducible refine w_asg ?_) | (with_reducible refine w_par ?_) | (with_reducible refine w_setsub ?_) | (with_reducible refine w_iff ?_) | (with_reducible refine w_ret ?_) | (with_reducible refine w_expr ?_) | (with_reducible refine w_end ?_) | (with_reducible refine w_con ?_) | (with_reducible refine w_bin ?_) | (with_reducible refine w_neg ?_) | (with_reducible refine w_cmp ?_) | (with_reducible refine w_chn ?_) | (with_reducible refine w_and ?_) | (with_reducible refine w_or ?_) | (with_reducible refine w_not ?_) | (with_reducible refine w_ite ?_) | (with_reducible refine w_sub ?_) | (with_reducible refine w_sli ?_) | (with_reducible refine w_rev ?_) | (with_reducible refine w_fld ?_) | (with_reducible refine w_call ?_) | (with_reducible refine w_bmt ?_) | (with_reducible refine w_blt ?_) | (with_reducible refine w_isi ?_) | (with_reducible refine w_lst ?_) | (with_reducible refine w_tup ?_) | (with_reducible refine w_nil ?_) | (with_reducible refine w_arg ?_) | (with_reducible refine w_star ?_) | (with_reducible refine w_tr ?_) | (with_reducible refine o_add ?_) | (with_reducible refine o_sub ?_) | (with_reducible refine o_mod (by omega) ?_) | (with_reducible refine o_div (by omega) (by omega) ?_) | (with_reducible refine b_int ?_) | (with_reducible refine b_abs ?_) | (with_reducible refine b_max ?_) | (with_reducible refine b_min ?_) | (with_reducible refine c_lt ?_) | (with_reducible refine c_le ?_) | (with_reducible refine c_gt ?_) | (with_reducible refine c_ge ?_) | (with_reducible refine e_int ?_) | (with_reducible refine e_str ?_) | (with_reducible refine n_int ?_) | (with_reducible refine n_str ?_) | (with_reducible refine l_tup ?_) | (with_reducible refine l_lsv ?_) | (with_reducible refine w_mth ?_) | (with_reducible refine is_str ?_) | (with_reducible refine u_tup ?_) | (with_reducible refine l_new ?_) | (with_reducible refine isN_non ?_) | (with_reducible refine notN_non ?_) | (with_reducible refine isN_tup ?_) | (with_reducible refine notN_tup ?_) | (with_reducible refine w_for ?_) | (with_reducible refine w_whl ?_) | (with_reducible refine w_ev ?_) | (with_reducible refine w_keys ?_) | (with_reducible refine w_rng ?_) | (with_reducible refine it_tup ?_) | (with_reducible refine w_dic ?_) | (with_reducible refine w_pc ?_) | (with_reducible refine w_pn ?_) | (with_reducible refine w_tg ?_) | (with_reducible refine w_ng ?_) | (with_reducible refine w_cn ?_) | (with_reducible refine w_cs ?_) | (with_reducible refine w_os ?_) | (with_reducible refine w_ov ?_) | ((with_reducible apply w_var); exact rfl) | ((with_reducible refine if_yes ?_ ?_); exact rfl) | ((with_reducible refine if_no ?_ ?_); exact rfl)))
/-! ### making a box -/
/-- a text that is read to the end -/
structure Reads (text : Tx) (R : Rs) : Prop where
  rd : Rd 0 ⟨[], [], [], []⟩ ((splitOn 10 text).map (splitOn 32)) R
  ne : R.steps ≠ []
  ld : ∀ l ∈ R.leads, l.2 ∈ keysR R
  ln : text.length ≤ 90000
theorem Reads.inv {text : Tx} {R : Rs} (h : Reads text R) : RsInv R := h.rd.inv RsInv.void
theorem Reads.wf {text : Tx} {R : Rs} (h : Reads text R) : (R.box text).WF := h.inv.wf h.ne h.ld text
theorem split_len (c : Nat) : ∀ s : Tx, (splitOn c s).length ≤ s.length + 1 ∧ ∀ r ∈ splitOn c s, r.length ≤ s.length
  | [] => by simp [splitOn]
  | x :: s => by
    obtain ⟨h1, h2⟩ := split_len c s
    rw [splitOn]
    split
    · refine ⟨by simpa using h1, fun r hr => ?_⟩
      rcases List.mem_cons.mp hr with z | z
      · rw [z]; simp
      · have := h2 r z; simp; omega
    · split
      · simp
      · rename_i w ws e
        rw [e] at h1 h2
        refine ⟨by simp at h1 ⊢; omega, fun r hr => ?_⟩
        rcases List.mem_cons.mp hr with z | z
        · rw [z]; have := h2 w List.mem_cons_self; simp; omega
        · have := h2 r (List.mem_cons_of_mem _ z); simp; omega
/-- a box without uneven rings -/
structure Even (D : BoxD) (rk : Tx → Nat) (N : Nat) : Prop where
  up : Ups D rk N
  ev : ∀ p, Reach D (D.places.headD []) p → ∀ ws, Walk D p ws p → D.load ws = 0
def d_box_init : IDef := ⟨2, 7, [
    .asg (.name 2) (.call "read_lines" (.cons (.var 1) .nil)),
    .setfld (.var 0) "own_text" (.var 1),
    .setfld (.var 0) "own_ins" (.blt .tuple (.cons (.sub (.fld (.var 2) "own_lines") (.con (.str [105, 110]))) .nil)),
    .setfld (.var 0) "own_outs" (.blt .tuple (.cons (.sub (.fld (.var 2) "own_lines") (.con (.str [111, 117, 116]))) .nil)),
    .setfld (.var 0) "own_steps" (.dc (.var 5) (.blt .tuple (.cons (.var 6) .nil)) (.tup [5, 6]) (.items (.fld (.var 2) "steps")) [5, 6]),
    .setfld (.var 0) "own_weights" (.dc (.sub (.var 4) (.con (.int 0))) (.sub (.var 4) (.con (.int 1))) (.name 4) (.ev (.bin .add (.fld (.var 0) "own_ins") (.fld (.var 0) "own_outs"))) [4]),
    .asg (.name 3) (.call "uneven_ring" (.cons (.var 0) .nil)),
    .iff (.cmp .notN (.var 3) (.con .non)) [.bad] []]⟩
structure HasMake (P : Prog) : Prop where
  rd : HasRead P
  rg : HasRings P
  bi : P.df "Box.__init__" = some d_box_init
  mbi : P.mt "Box" "__init__" = some "Box.__init__"
  tu : P.df "turned" = some d_turned
  ub : P.df "uneven_by" = some d_uneven_by
  ur : P.df "uneven_ring" = some d_uneven_ring
  pt : P.pr "Box" "own_text" = some none
  pi : P.pr "Box" "own_ins" = some none
  po : P.pr "Box" "own_outs" = some none
theorem w_dc {P : Prog} {F : Phi} {σ : Env} {st : Sto} {Q : Post} {X : Xp} {ke ve : IE} {tg : ITg} {it : II} {own : List Nat} (h : wpI P F it σ st (fun J st1 fin => J.xs.length < big ∧
      loop J.ok (fun x acc st2 k => setTg tg x (wipeE σ own) fun σ2 => wpE P F ke σ2 st2 (fun kv st3 => isKey kv = true ∧ wpE P F ve σ2 st3 (fun y st4 => k (kPut kv y acc) st4) (fun _ _ _ => False)) (fun _ _ _ => False)) J.xs [] st1
        fun acc st5 => fin st5 fun st6 => Q (.ref st6.length) (st6 ++ [.dic false acc])) X) : wpE P F (.dc ke ve tg it own) σ st Q X := h
theorem w_items {P : Prog} {F : Phi} {σ : Env} {st : Sto} {X : Xp} {e : IE} {R : It → Sto → (Sto → (Sto → Prop) → Prop) → Prop} (h : wpE P F e σ st (fun v st0 => lockAt v st0 fun a kvs st1 => R ⟨kvs.map fun kv => .tup [kv.1, kv.2], fun st' => st'[a]? = some (.dic true kvs)⟩ st1 fun st3 k => unlock a kvs st3 k) X) : wpI P F (.items e) σ st R X := h
theorem zip_at {α β γ : Type} {f : α → β → γ} {as : List α} {bs : List β} {i : Nat} {c : γ} (h : (List.zipWith f as bs)[i]? = some c) : ∃ a b, as[i]? = some a ∧ bs[i]? = some b ∧ c = f a b := by
  rw [List.getElem?_zipWith] at h
  cases ha : as[i]? with
  | none => rw [ha] at h; simp at h
  | some a =>
    cases hb : bs[i]? with
    | none => rw [ha, hb] at h; simp at h
    | some b => rw [ha, hb] at h; simp at h; exact ⟨a, b, rfl, rfl, h.symm⟩
theorem keysOf_map {α : Type} (f : α → Tx) (g : α → MV) (l : List α) : keysOf (l.map fun e => (MV.str (f e), g e)) = (l.map f).map .str := by simp [keysOf, List.map_map, Function.comp_def]
theorem set_same {st : Sto} {i : Nat} {o : MO} (h : st[i]? = some o) : st.set i o = st := by
  refine List.ext_getElem? fun j => ?_
  by_cases e : i = j
  · subst e; rw [get_set h, h]
  · rw [List.getElem?_set_ne e]
theorem take_succ_at {α : Type} {l : List α} {i : Nat} {x : α} (h : l[i]? = some x) : l.take (i + 1) = l.take i ++ [x] := by
  rw [List.take_add_one, h]; rfl
section
variable {P : Prog} (B : HasMake P) {k : Nat} {st : Sto} {Q : Post} {X : Xp}
include B
theorem box_ok {N : Nat} {rk : Tx → Nat} (hk : N + 8 ≤ k) {n : Nat} {text : Tx} {R : Rs} (hn : st[n]? = some (.ins "Box" [])) (rd : Reads text R) (ev : Even (R.box text) rk N)
    (q : ∀ ds dw st', BoxAt st' n ds dw (R.box text) → Keep [n] st st' → st.length ≤ ds → st.length ≤ dw → Q .non st') : sem P k "Box.__init__" [.ref n, .str text] st Q X := by
  have inv := rd.inv
  have wf := rd.wf
  obtain ⟨sl1, sl2⟩ := split_len 10 text
  have tl := rd.ln
  refine sem_go (by omega) B.bi rfl ?_
  show wpSs P _ [_, _, _, _, _, _, _, _] _ [some (.ref n), some (.str text), none, none, none, none, none] st
  decreasing_trivial_pre_omega
  refine read_lines_ok B.rd (by omega) rfl (by simp [big]; omega) (fun r hr => by have := sl2 r hr; simp [big]; omega) (by simp; omega) rd.rd rd.ne rd.ld fun A st1 hA k1 hge => ?_
  have n1 := k1.at_ _ _ (by simp) hn
  have nlt := (List.getElem?_eq_some_iff.mp hn).1
  have nA : ∀ a ∈ A.all, a ≠ n := fun a ha => by have := hge a ha; omega
  decreasing_trivial_pre_omega
  refine w_setfld ?_
  decreasing_trivial_pre_omega
  refine w_fs n1 B.pt (by simp) ?_
  generalize hS2 : st1.set n _ = S2
  have n2 : S2[n]? = some (.ins "Box" [("own_text", .str text)]) := by rw [← hS2]; exact get_set n1
  have A2 : RdAt S2 A R := by rw [← hS2]; exact hA.keep (Keep.set (W := [n]) _ (by simp)) fun a ha => by simp; exact nA a ha
  have l2 : S2.length = st1.length := by rw [← hS2]; simp
  have kk2 : Keep [n] st S2 := by rw [← hS2]; exact (k1.mono (by simp)).trans (Keep.set _ (by simp))
  decreasing_trivial_pre_omega
  refine w_setfld ?_
  decreasing_trivial_pre_omega
  refine f_at A2.ob B.rd.pow rfl ?_
  decreasing_trivial_pre_omega
  refine g_dic A2.ow rfl rfl ?_
  decreasing_trivial_pre_omega
  refine u_lst A2.il ?_
  decreasing_trivial_pre_omega
  refine w_fs n2 B.pi (by simp) ?_
  generalize hS3 : S2.set n _ = S3
  have n3 : S3[n]? = some (.ins "Box" [("own_text", .str text), ("own_ins", .tup (R.ins.map lineV))]) := by rw [← hS3, get_set n2]; rfl
  have A3 : RdAt S3 A R := by rw [← hS3]; exact A2.keep (Keep.set (W := [n]) _ (by simp)) fun a ha => by simp; exact nA a ha
  have kk3 : Keep [n] st S3 := by rw [← hS3]; exact kk2.trans (Keep.set _ (by simp))
  decreasing_trivial_pre_omega
  refine w_setfld ?_
  decreasing_trivial_pre_omega
  refine f_at A3.ob B.rd.pow rfl ?_
  decreasing_trivial_pre_omega
  refine g_dic A3.ow rfl rfl ?_
  decreasing_trivial_pre_omega
  refine u_lst A3.ol ?_
  decreasing_trivial_pre_omega
  refine w_fs n3 B.po (by simp) ?_
  generalize hS4 : S3.set n _ = S4
  have n4 : S4[n]? = some (.ins "Box" [("own_text", .str text), ("own_ins", .tup (R.ins.map lineV)), ("own_outs", .tup (R.outs.map lineV))]) := by rw [← hS4, get_set n3]; rfl
  have A4 : RdAt S4 A R := by rw [← hS4]; exact A3.keep (Keep.set (W := [n]) _ (by simp)) fun a ha => by simp; exact nA a ha
  have kk4 : Keep [n] st S4 := by rw [← hS4]; exact kk3.trans (Keep.set _ (by simp))
  decreasing_trivial_pre_omega
  refine w_setfld ?_
  refine w_dc (w_items ?_)
  decreasing_trivial_pre_omega
  refine f_at A4.ob B.rd.pst rfl ?_
  refine ⟨_, _, rfl, A4.sl, ?_⟩
  have few := inv.few
  refine ⟨by simp [stpV, A4.la, big]; omega, ?_⟩
  generalize hS5 : S4.set A.ds _ = S5
  have nds : A.ds ≠ n := nA _ (by simp [RdA.all])
  have n5 : S5[n]? = some (.ins "Box" [("own_text", .str text), ("own_ins", .tup (R.ins.map lineV)), ("own_outs", .tup (R.outs.map lineV))]) := by rw [← hS5]; exact get_other nds n4
  have d5 : S5[A.ds]? = some (.dic true (stpV R.steps A.as)) := by rw [← hS5]; exact get_set A4.sl
  have nda : ∀ a ∈ A.as, A.ds ≠ a := fun a ha e => by
    have nd := A4.nd
    simp only [RdA.all, List.cons_append, List.nil_append, List.nodup_cons, List.mem_cons, not_or] at nd
    exact nd.2.2.2.2.1.2 (e ▸ ha)
  have e5 : ∀ (i : Nat) e a, R.steps[i]? = some e → A.as[i]? = some a → S5[a]? = some (.lst (e.2.map stepV)) := fun i e a h1 h2 => by
    rw [← hS5]; exact get_other (nda a (List.mem_of_getElem? h2)) (A4.ea i e a h1 h2)
  refine loop_go (fun pre acc st' => st' = S5 ∧ acc = ((R.steps.take pre.length).map fun e => (MV.str e.1, stepsV e.2))) ⟨rfl, rfl⟩ (fun _ _ _ h => by rw [h.1]; exact d5) ?_ ?_
  · rintro pre x r acc st' kk e ⟨rfl, rfl⟩ hkk
    have hx : ((stpV R.steps A.as).map fun kv => MV.tup [kv.1, kv.2])[pre.length]? = some x := by
      have e : ((stpV R.steps A.as).map fun kv => MV.tup [kv.1, kv.2]) = pre ++ x :: r := e
      rw [e]; simp
    rw [List.getElem?_map] at hx
    cases hz : (stpV R.steps A.as)[pre.length]? with
    | none => rw [hz] at hx; cases hx
    | some c =>
      rw [hz] at hx
      cases hx
      obtain ⟨en, a, h1, h2, rfl⟩ := zip_at hz
      refine w_tt rfl ?_
      refine w_var rfl ?_
      refine ⟨rfl, ?_⟩
      decreasing_trivial_pre_omega
      refine u_lst (e5 _ _ _ h1 h2) ?_
      have hks : keysOf ((R.steps.take pre.length).map fun e => (MV.str e.1, stepsV e.2)) = ((R.steps.take pre.length).map (·.1)).map .str := keysOf_map _ _ _
      have hnew : en.1 ∉ (R.steps.take pre.length).map (·.1) := by
        have nk := inv.nk
        unfold keysR at nk
        rw [← List.take_append_drop pre.length R.steps, List.map_append, List.nodup_append] at nk
        intro z
        refine nk.2.2 _ z en.1 ?_ rfl
        rw [List.drop_eq_getElem_cons (List.getElem?_eq_some_iff.mp h1).1, (List.getElem?_eq_some_iff.mp h1).2]
        simp
      rw [put_new hks hnew]
      refine hkk _ _ ⟨rfl, ?_⟩
      rw [List.length_append, List.length_singleton, take_succ_at h1]
      simp
  rintro acc st' ⟨e9, rfl⟩
  have e9 := e9.symm
  subst e9
  refine ⟨d5, ?_⟩
  have tk : R.steps.take (List.length ((stpV R.steps A.as).map fun kv => MV.tup [kv.1, kv.2])) = R.steps := List.take_of_length_le (by simp [stpV, A4.la])
  rw [tk]
  have hS6 : S5.set A.ds (.dic false (stpV R.steps A.as)) = S4 := by
    rw [← hS5, List.set_set]
    exact set_same A4.sl
  rw [hS6]
  decreasing_trivial_pre_omega
  refine w_fs (get_app n4) B.rg.bx.ps (by simp) ?_
  generalize hS7 : (S4 ++ [_]).set n _ = S7
  have n4l := (List.getElem?_eq_some_iff.mp n4).1
  have n7 : S7[n]? = some (.ins "Box" [("own_text", .str text), ("own_ins", .tup (R.ins.map lineV)), ("own_outs", .tup (R.outs.map lineV)), ("own_steps", .ref S4.length)]) := by rw [← hS7, get_set (get_app n4)]; rfl
  have d7 : S7[S4.length]? = some (.dic false (R.box text).kvs) := by rw [← hS7]; exact get_other (by omega) get_new
  have kk7 : Keep [n] st S7 := by rw [← hS7]; exact (kk4.trans (Keep.app _ _ _)).trans (Keep.set _ (by simp))
  have l7 : S7.length = S4.length + 1 := by rw [← hS7]; simp
  decreasing_trivial_pre_omega
  refine w_setfld ?_
  refine w_dc ?_
  decreasing_trivial_pre_omega
  refine f_at n7 B.pi rfl ?_
  decreasing_trivial_pre_omega
  refine f_at n7 B.po rfl ?_
  obtain ⟨li1, li2⟩ := inv.rk.li
  refine ⟨by simp [big]; omega, ?_⟩
  decreasing_trivial_pre_omega
  refine ⟨by simp [big]; omega, ?_⟩
  rw [← List.map_append]
  refine loop_go (fun pre acc st' => st' = S7 ∧ acc = (((R.ins ++ R.outs).take pre.length).map fun e => (MV.str e.1, MV.int e.2.1))) ⟨rfl, rfl⟩ (fun _ _ _ h => True.intro) ?_ ?_
  · rintro pre x r acc st' kk e ⟨rfl, rfl⟩ hkk
    obtain ⟨l, hl, rfl⟩ := item_at e
    decreasing_trivial_pre_omega
    refine g_tup (by rfl) ?_
    refine ⟨rfl, ?_⟩
    decreasing_trivial_pre_omega
    refine g_tup (by rfl) ?_
    have hks : keysOf (((R.ins ++ R.outs).take pre.length).map fun e => (MV.str e.1, MV.int e.2.1)) = (((R.ins ++ R.outs).take pre.length).map (·.1)).map .str := keysOf_map _ _ _
    have hnew : l.1 ∉ ((R.ins ++ R.outs).take pre.length).map (·.1) := by
      have nk := inv.nl
      rw [← List.take_append_drop pre.length (R.ins ++ R.outs), List.map_append, List.nodup_append] at nk
      intro z
      refine nk.2.2 _ z l.1 ?_ rfl
      rw [List.drop_eq_getElem_cons (List.getElem?_eq_some_iff.mp hl).1, (List.getElem?_eq_some_iff.mp hl).2]
      simp
    rw [put_new hks hnew]
    refine hkk _ _ ⟨rfl, ?_⟩
    rw [List.length_append, List.length_singleton, take_succ_at hl]
    simp
  rintro acc st' ⟨e9, rfl⟩
  have e9 := e9.symm
  subst e9
  have tk2 : (R.ins ++ R.outs).take (List.length ((R.ins ++ R.outs).map lineV)) = R.ins ++ R.outs := List.take_of_length_le (by simp)
  rw [tk2]
  decreasing_trivial_pre_omega
  refine w_fs (get_app n7) B.rg.bx.pw (by simp) ?_
  generalize hS8 : (S7 ++ [_]).set n _ = S8
  have n8 : S8[n]? = some (.ins "Box" ((R.box text).fs S4.length S7.length)) := by rw [← hS8, get_set (get_app n7)]; rfl
  have d8 : S8[S4.length]? = some (.dic false (R.box text).kvs) := by rw [← hS8]; exact get_other (by omega) (get_app d7)
  have w8 : S8[S7.length]? = some (.dic false (R.box text).wkv) := by
    rw [← hS8, get_other (by omega) get_new]
    simp [BoxD.wkv, BoxD.wts, Rs.box, List.map_map, Function.comp_def]
  have kk8 : Keep [n] st S8 := by rw [← hS8]; exact (kk7.trans (Keep.app _ _ _)).trans (Keep.set _ (by simp))
  have b8 : BoxAt S8 n S4.length S7.length (R.box text) := ⟨n8, d8, w8⟩
  decreasing_trivial_pre_omega
  obtain ⟨⟨fi, fss⟩, rest, hst⟩ : ∃ e r, (R.box text).steps = e :: r := by
    have := wf.ne
    cases hh : (R.box text).steps with
    | nil => exact absurd hh this
    | cons a r => exact ⟨a, r, rfl⟩
  have hleft : (R.box text).left [] ≤ 100000 := by
    have h1 := left_le wf.nd
    have h2 := inv.sm
    have h3 := inv.ml
    have h4 : ((R.box text).steps.map fun e => e.2.length).sum = R.leads.length := h2
    omega
  refine uneven_ring_ok B.rg wf ev.up B.tu B.ub B.ur (by omega) b8 hst hleft (by
    have := ev.ev
    rw [show (R.box text).places.headD [] = fi by simp [BoxD.places, hst]] at this
    exact this) fun st9 k9 => ?_
  decreasing_trivial_pre_omega
  have b9 := b8.keep k9 (by simp) (by simp) (by simp)
  have k9' : Keep [n] st st9 := kk8.trans (k9.mono (by simp))
  have l4 : st.length ≤ S4.length := kk4.le
  exact q _ _ _ b9 k9' l4 (by omega)
end
end Mi
-- B22
namespace Mi
/-! ### loads, in plain words -/
abbrev Ld := List (Tx × (Int × Int))
def ldV (l : Ld) : List (MV × MV) := l.map fun e => (.str e.1, .tup [.int e.2.1, .int e.2.2])
abbrev keysL (l : Ld) : List Tx := l.map (·.1)
def putL (k : Tx) (v : Int × Int) (l : Ld) : Ld := if k ∈ keysL l then l.map fun e => if e.1 = k then (e.1, v) else e else l ++ [(k, v)]
theorem look_ld (l : Ld) (k : Tx) : kLook (.str k) (ldV l) = (l.lookup k).map fun v => MV.tup [.int v.1, .int v.2] := kLook_str (fun v : Int × Int => MV.tup [.int v.1, .int v.2]) k l
theorem keys_ld (l : Ld) : keysOf (ldV l) = (keysL l).map .str := keysOf_map _ _ _
theorem put_ld (l : Ld) (k : Tx) (v : Int × Int) : kPut (.str k) (.tup [.int v.1, .int v.2]) (ldV l) = ldV (putL k v l) := by
  by_cases h : k ∈ keysL l
  · unfold kPut putL
    have h2 : ((ldV l).any fun p => keyEq p.1 (.str k)) = true := by
      rw [List.any_eq_true]
      obtain ⟨e, he, rfl⟩ := List.mem_map.mp h
      exact ⟨_, List.mem_map_of_mem he, by simp [keyEq]⟩
    rw [if_pos h2, if_pos h]
    unfold ldV
    rw [List.map_map, List.map_map]
    refine List.map_congr_left fun e _ => ?_
    simp only [Function.comp_apply]
    rw [show keyEq (MV.str e.1) (MV.str k) = (e.1 == k) from rfl]
    by_cases z : e.1 = k
    · rw [if_pos (by simp [z]), if_pos z]
    · rw [if_neg (by simp [z]), if_neg z]
  · rw [put_new (keys_ld l) h]
    unfold putL
    rw [if_neg h]
    simp [ldV]
theorem mem_look {l : Ld} {k : Tx} : (l.lookup k).isSome = true ↔ k ∈ keysL l := by
  induction l with
  | nil => simp
  | cons a r ih =>
    rw [List.lookup_cons]
    by_cases e : k = a.1
    · subst e; simp
    · have e2 : (k == a.1) = false := by simp [e]
      rw [e2]
      simp only [List.map_cons, List.mem_cons, e, false_or]
      exact ih
theorem look_putL (l : Ld) (k q : Tx) (v : Int × Int) : (putL k v l).lookup q = if q = k then some v else l.lookup q := by
  by_cases h : k ∈ keysL l
  · unfold putL
    rw [if_pos h]
    induction l with
    | nil => simp at h
    | cons a r ih =>
      have en : ∀ r : Ld, k ∉ keysL r → (r.map fun e => if e.1 = k then (e.1, v) else e) = r := fun r hr => by
        conv => rhs; rw [← List.map_id r]
        refine List.map_congr_left fun e he => ?_
        have hne : e.1 ≠ k := fun z => hr (z ▸ List.mem_map_of_mem he)
        rw [if_neg hne]; rfl
      rw [List.map_cons]
      by_cases e : a.1 = k
      · rw [if_pos e, List.lookup_cons, List.lookup_cons]
        by_cases hq : q = k
        · rw [if_pos hq, show (q == a.1) = true by simp [hq, e]]
        · rw [if_neg hq, show (q == a.1) = false by simp [e, hq]]
          by_cases hk : k ∈ keysL r
          · have := ih hk; rw [if_neg hq] at this; exact this
          · rw [en r hk]
      · rw [if_neg e, List.lookup_cons, List.lookup_cons]
        have hk : k ∈ keysL r := by
          rcases List.mem_cons.mp h with z | z
          · exact absurd z.symm e
          · exact z
        by_cases hq : q = a.1
        · rw [show (q == a.1) = true by simp [hq]]
          rw [if_neg (by rw [hq]; exact e)]
        · rw [show (q == a.1) = false by simp [hq]]
          exact ih hk
  · unfold putL
    rw [if_neg h, List.lookup_append]
    by_cases hq : q = k
    · subst hq
      have : l.lookup q = none := by
        cases e : l.lookup q with
        | none => rfl
        | some v => exact absurd (mem_look.mp (by rw [e]; rfl)) h
      rw [this, if_pos rfl]
      simp [List.lookup]
    · rw [if_neg hq]
      have : (List.lookup q [(k, v)]) = none := by
        rw [List.lookup_cons, show (q == k) = false by simp [hq]]; rfl
      rw [this]
      simp
theorem keys_putL (l : Ld) (k : Tx) (v : Int × Int) : keysL (putL k v l) = if k ∈ keysL l then keysL l else keysL l ++ [k] := by
  unfold putL
  by_cases h : k ∈ keysL l
  · rw [if_pos h, if_pos h]
    unfold keysL
    rw [List.map_map]
    refine List.map_congr_left fun e _ => ?_
    simp only [Function.comp_apply]
    split <;> rfl
  · rw [if_neg h, if_neg h]
    simp
/-- what is found is told by walks -/
structure LdOk (D : BoxD) (f : Tx) (l : Ld) : Prop where
  snd : ∀ p lo hi, l.lookup p = some (lo, hi) → (∃ w, Walk D f w p ∧ D.load w = lo) ∧ ∃ w, Walk D f w p ∧ D.load w = hi
  nd : (keysL l).Nodup
  sub : ∀ p ∈ keysL l, p ∈ D.places
/-- l tells of p what is at least lo to hi -/
def Holds (l : Ld) (p : Tx) (lo hi : Int) : Prop := ∃ lo' hi', l.lookup p = some (lo', hi') ∧ lo' ≤ lo ∧ hi ≤ hi'
def Grows (l l' : Ld) : Prop := ∀ p lo hi, Holds l p lo hi → Holds l' p lo hi
def Cov (D : BoxD) (f : Tx) (L : Nat) (l : Ld) : Prop := ∀ w p, Walk D f w p → w.length ≤ L → Holds l p (D.load w) (D.load w)
theorem Grows.refl (l : Ld) : Grows l l := fun _ _ _ h => h
theorem Grows.trans {a b c : Ld} (x : Grows a b) (y : Grows b c) : Grows a c := fun p lo hi h => y p lo hi (x p lo hi h)
theorem Walk.places {D : BoxD} (wf : D.WF) {a b : Tx} {w : List (Tx × List Tx)} (h : Walk D a w b) (ha : a ∈ D.places) : b ∈ D.places := by
  induction h with
  | nil => exact ha
  | cons hs _ ih => exact ih (wf.fit _ _ hs).2.2
theorem Walk.split {D : BoxD} {a b : Tx} {w1 w2 : List (Tx × List Tx)} (h : Walk D a (w1 ++ w2) b) : ∃ c, Walk D a w1 c ∧ Walk D c w2 b := by
  induction w1 generalizing a with
  | nil => exact ⟨a, .nil, h⟩
  | cons r t ih =>
    cases h with
    | cons hs ht =>
      obtain ⟨c, h1, h2⟩ := ih ht
      exact ⟨c, .cons hs h1, h2⟩
theorem Walk.last {D : BoxD} {a b : Tx} {w : List (Tx × List Tx)} (h : Walk D a w b) : w = [] ∧ a = b ∨ ∃ r p s, w = r ++ [(p, s)] ∧ Walk D a r p ∧ s ∈ D.at_ p ∧ tgt s = b := by
  rcases List.eq_nil_or_concat w with rfl | ⟨r, x, rfl⟩
  · cases h; exact .inl ⟨rfl, rfl⟩
  · rw [List.concat_eq_append] at h ⊢
    obtain ⟨c, h1, h2⟩ := h.split
    obtain ⟨p, s⟩ := x
    cases h2 with
    | cons hs ht => cases ht; exact .inr ⟨r, c, s, rfl, h1, hs, rfl⟩
/-- one step looked at -/
theorem LdOk.step {D : BoxD} (wf : D.WF) {f p : Tx} {l : Ld} (h : LdOk D f l) {s : List Tx} (hs : s ∈ D.at_ p) {lo hi : Int} (hl : l.lookup p = some (lo, hi)) {m0 m1 : Int} (hm : (l.lookup (tgt s)).getD (lo + D.gain s, hi + D.gain s) = (m0, m1)) :
    LdOk D f (putL (tgt s) (if m0 < lo + D.gain s then m0 else lo + D.gain s, if m1 > hi + D.gain s then m1 else hi + D.gain s) l) ∧
    Grows l (putL (tgt s) (if m0 < lo + D.gain s then m0 else lo + D.gain s, if m1 > hi + D.gain s then m1 else hi + D.gain s) l) ∧
    Holds (putL (tgt s) (if m0 < lo + D.gain s then m0 else lo + D.gain s, if m1 > hi + D.gain s then m1 else hi + D.gain s) l) (tgt s) (lo + D.gain s) (hi + D.gain s) := by
  have hp := (h.snd p lo hi hl)
  obtain ⟨⟨w1, x1, x2⟩, w2, y1, y2⟩ := hp
  have m0o : ∃ w, Walk D f w (tgt s) ∧ D.load w = m0 := by
    cases hh : l.lookup (tgt s) with
    | none =>
      rw [hh] at hm
      simp at hm
      exact ⟨w1 ++ [(p, s)], x1.snoc hs, by rw [load_app]; simp [BoxD.load]; omega⟩
    | some v =>
      obtain ⟨a, b⟩ := v
      rw [hh] at hm
      simp at hm
      exact hm.1 ▸ (h.snd _ _ _ hh).1
  have m1o : ∃ w, Walk D f w (tgt s) ∧ D.load w = m1 := by
    cases hh : l.lookup (tgt s) with
    | none =>
      rw [hh] at hm
      simp at hm
      exact ⟨w2 ++ [(p, s)], y1.snoc hs, by rw [load_app]; simp [BoxD.load]; omega⟩
    | some v =>
      obtain ⟨a, b⟩ := v
      rw [hh] at hm
      simp at hm
      exact hm.2 ▸ (h.snd _ _ _ hh).2
  refine ⟨⟨?_, ?_, ?_⟩, ?_, ?_⟩
  · intro q a b hq
    rw [look_putL] at hq
    by_cases e : q = tgt s
    · rw [if_pos e] at hq
      simp only [Option.some.injEq, Prod.mk.injEq] at hq
      obtain ⟨rfl, rfl⟩ := hq
      subst e
      refine ⟨?_, ?_⟩
      · split
        · exact m0o
        · exact ⟨w1 ++ [(p, s)], x1.snoc hs, by rw [load_app]; simp [BoxD.load]; omega⟩
      · split
        · exact m1o
        · exact ⟨w2 ++ [(p, s)], y1.snoc hs, by rw [load_app]; simp [BoxD.load]; omega⟩
    · rw [if_neg e] at hq
      exact h.snd q a b hq
  · rw [keys_putL]
    split
    · exact h.nd
    · exact nodup_snoc h.nd ‹_›
  · intro q hq
    rw [keys_putL] at hq
    split at hq
    · exact h.sub q hq
    · rcases List.mem_append.mp hq with z | z
      · exact h.sub q z
      · simp at z; rw [z]; exact (wf.fit p s hs).2.2
  · rintro q a b ⟨a', b', h1, h2, h3⟩
    unfold Holds
    rw [look_putL]
    by_cases e : q = tgt s
    · rw [if_pos e]
      rw [← e, h1] at hm
      simp at hm
      refine ⟨_, _, rfl, ?_, ?_⟩ <;> split <;> omega
    · rw [if_neg e]
      exact ⟨a', b', h1, h2, h3⟩
  · unfold Holds
    rw [look_putL, if_pos rfl]
    refine ⟨_, _, rfl, ?_, ?_⟩ <;> split <;> omega
/-- walks of a load that come to no place twice -/
theorem short_walk {D : BoxD} (wf : D.WF) {f : Tx} (hf : f ∈ D.places) (ev : ∀ p, Reach D f p → ∀ ws, Walk D p ws p → D.load ws = 0) :
    ∀ (n : Nat) {w : List (Tx × List Tx)} {p : Tx}, w.length = n → Walk D f w p → ∃ w', Walk D f w' p ∧ D.load w' = D.load w ∧ (w'.map (·.1)).Nodup ∧ p ∉ w'.map (·.1) := by
  intro n
  induction n using Nat.strongRecOn with
  | _ n ih =>
    intro w p hn h
    by_cases hp : p ∈ w.map (·.1)
    · obtain ⟨⟨p', s⟩, hr, rfl⟩ := List.mem_map.mp hp
      obtain ⟨w1, w2, rfl⟩ := List.append_of_mem hr
      obtain ⟨c, h1, h2⟩ := h.split
      have hc : c = p' := by cases h2; rfl
      subst hc
      have e0 := ev c ⟨w1, h1⟩ _ h2
      obtain ⟨w', a1, a2, a3, a4⟩ := ih w1.length (by simp at hn; omega) rfl h1
      exact ⟨w', a1, by rw [a2, load_app, e0]; omega, a3, a4⟩
    · rcases h.last with ⟨rfl, rfl⟩ | ⟨r, c, s, rfl, h1, hs, rfl⟩
      · exact ⟨[], .nil, rfl, by simp, by simp⟩
      · obtain ⟨w', a1, a2, a3, a4⟩ := ih r.length (by simp at hn; omega) rfl h1
        by_cases hq : tgt s ∈ w'.map (·.1)
        · -- the walk to the place itself, cut
          obtain ⟨⟨p', s'⟩, hr, he⟩ := List.mem_map.mp hq
          obtain ⟨w1, w2, rfl⟩ := List.append_of_mem hr
          obtain ⟨d, g1, g2⟩ := a1.split
          have hd : d = p' := by cases g2; rfl
          subst hd
          have he : d = tgt s := he
          have g3 : Walk D d ((d, s') :: w2 ++ [(c, s)]) d := by
            have := g2.snoc hs
            rw [← he] at this
            exact this
          have e0 := ev d ⟨w1, g1⟩ _ g3
          rw [load_app] at e0
          have e3 : D.load (w1 ++ (d, s') :: w2) = D.load r := a2
          rw [load_app] at e3
          refine ⟨w1, he ▸ g1, ?_, ?_, ?_⟩
          · rw [load_app]; omega
          · rw [List.map_append, List.nodup_append] at a3; exact a3.1
          · rw [List.map_append, List.nodup_append] at a3
            rw [← he]
            intro z
            exact a3.2.2 d z d (by simp) rfl
        · refine ⟨w' ++ [(c, s)], a1.snoc hs, by rw [load_app, load_app, a2], ?_, ?_⟩
          · rw [List.map_append]; exact nodup_snoc a3 a4
          · rw [List.map_append, List.mem_append]
            rintro (z | z)
            · exact hq z
            · simp at z
              exact hp (by rw [List.map_append]; simp [z])
/-- the places on a walk are met -/
theorem walk_met {D : BoxD} {f p : Tx} {w : List (Tx × List Tx)} (h : Walk D f w p) : ∀ q ∈ w.map (·.1), Reach D f q := by
  intro q hq
  obtain ⟨⟨q', s⟩, hr, rfl⟩ := List.mem_map.mp hq
  obtain ⟨w1, w2, rfl⟩ := List.append_of_mem hr
  obtain ⟨c, h1, h2⟩ := h.split
  have hc : c = q' := by cases h2; rfl
  exact hc ▸ ⟨w1, h1⟩
/-- rounds enough: all walks are covered -/
theorem Cov.all {D : BoxD} (wf : D.WF) {f : Tx} (hf : f ∈ D.places) (ev : ∀ p, Reach D f p → ∀ ws, Walk D p ws p → D.load ws = 0) {ks : List Tx} (hk : ∀ p, Reach D f p → p ∈ ks) {L : Nat} (hL : ks.length ≤ L) {l : Ld} (c : Cov D f L l) {w : List (Tx × List Tx)} {p : Tx} (h : Walk D f w p) : Holds l p (D.load w) (D.load w) := by
  obtain ⟨w', a1, a2, a3, a4⟩ := short_walk wf hf ev w.length rfl h
  have hlen : w'.length ≤ ks.length := by
    have := len_le_of_sub a3 fun x hx => hk x (walk_met a1 x hx)
    simpa using this
  rw [← a2]
  exact c w' p a1 (by omega)
end Mi
-- B23
namespace Mi
local macro_rules | `(tactic| decreasing_trivial_pre_omega) => `(tactic| repeat (first | (with_reducible refine w_seq ?_) | (with_reducible refine w_set ?_) | (with_reducible refine w_asg ?_) | (with_reducible refine w_par ?_) | (with_reducible refine w_setsub ?_) | (with_reducible refine w_iff ?_) | (with_reducible refine w_ret ?_) | (with_reducible refine w_expr ?_) | (with_reducible refine w_end ?_) | (with_reducible refine w_con ?_) | (with_reducible refine w_bin ?_) | (with_reducible refine w_neg ?_) | (with_reducible refine w_cmp ?_) | (with_reducible refine w_chn ?_) | (with_reducible refine w_and ?_) | (with_reducible refine w_or ?_) | (with_reducible refine w_not ?_) | (with_reducible refine w_ite ?_) | (with_reducible refine w_sub ?_) | (with_reducible refine w_sli ?_) | (with_reducible refine w_rev ?_) | (with_reducible refine w_fld ?_) | (with_reducible refine w_call ?_) | (with_reducible refine w_bmt ?_) | (with_reducible refine w_blt ?_) | (with_reducible refine w_isi ?_) | (with_reducible refine w_lst ?_) | (with_reducible refine w_tup ?_) | (with_reducible refine w_nil ?_) | (with_reducible refine w_arg ?_) | (with_reducible refine w_star ?_) | (with_reducible refine w_tr ?_) | (with_reducible refine o_add ?_) | (with_reducible refine o_sub ?_) | (with_reducible refine o_mod (by omega) ?_) | (with_reducible refine o_div (by omega) (by omega) ?_) | (with_reducible refine b_int ?_) | (with_reducible refine b_abs ?_) | (with_reducible refine b_max ?_) | (with_reducible refine b_min ?_) | (with_reducible refine c_lt ?_) | (with_reducible refine c_le ?_) | (with_reducible refine c_gt ?_) | (with_reducible refine c_ge ?_) | (with_reducible refine e_int ?_) | (with_reducible refine e_str ?_) | (with_reducible refine n_int ?_) | (with_reducible refine n_str ?_) | (with_reducible refine l_tup ?_) | (with_reducible refine l_lsv ?_) | (with_reducible refine w_mth ?_) | (with_reducible refine is_str ?_) | (with_reducible refine u_tup ?_) | (with_reducible refine l_new ?_) | (with_reducible refine isN_non ?_) | (with_reducible refine notN_non ?_) | (with_reducible refine isN_tup ?_) | (with_reducible refine notN_tup ?_) | (with_reducible refine w_for ?_) | (with_reducible refine w_whl ?_) | (with_reducible refine w_ev ?_) | (with_reducible refine w_keys ?_) | (with_reducible refine w_rng ?_) | (with_reducible refine it_tup ?_) | (with_reducible refine w_lc ?_) | (with_reducible refine w_dic ?_) | (with_reducible refine w_pc ?_) | (with_reducible refine w_pn ?_) | (with_reducible refine w_tg ?_) | (with_reducible refine w_ng ?_) | (with_reducible refine w_cn ?_) | (with_reducible refine w_cs ?_) | (with_reducible refine w_os ?_) | (with_reducible refine w_ov ?_) | ((with_reducible apply w_var); exact rfl) | ((with_reducible refine if_yes ?_ ?_); exact rfl) | ((with_reducible refine if_no ?_ ?_); exact rfl)))
local macro_rules | `(tactic| array_get_dec) => `(tactic| repeat (first | (with_reducible refine w_seq ?_) | (with_reducible refine w_set ?_) | (with_reducible refine w_asg ?_) | (with_reducible refine w_par ?_) | (with_reducible refine w_setsub ?_) | (with_reducible refine w_iff ?_) | (with_reducible refine w_ret ?_) | (with_reducible refine w_expr ?_) | (with_reducible refine w_end ?_) | (with_reducible refine w_con ?_) | (with_reducible refine w_bin ?_) | (with_reducible refine w_neg ?_) | (with_reducible refine w_cmp ?_) | (with_reducible refine w_chn ?_) | (with_reducible refine w_and ?_) | (with_reducible refine w_or ?_) | (with_reducible refine w_not ?_) | (with_reducible refine w_ite ?_) | (with_reducible refine w_sub ?_) | (with_reducible refine w_sli ?_) | (with_reducible refine w_rev ?_) | (with_reducible refine w_fld ?_) | (with_reducible refine w_call ?_) | (with_reducible refine w_bmt ?_) | (with_reducible refine w_blt ?_) | (with_reducible refine w_isi ?_) | (with_reducible refine w_lst ?_) | (with_reducible refine w_tup ?_) | (with_reducible refine w_nil ?_) | (with_reducible refine w_arg ?_) | (with_reducible refine w_star ?_) | (with_reducible refine w_tr ?_) | (with_reducible refine o_add ?_) | (with_reducible refine o_sub ?_) | (with_reducible refine o_mod (by omega) ?_) | (with_reducible refine o_div (by omega) (by omega) ?_) | (with_reducible refine b_int ?_) | (with_reducible refine b_abs ?_) | (with_reducible refine b_max ?_) | (with_reducible refine b_min ?_) | (with_reducible refine c_lt ?_) | (with_reducible refine c_le ?_) | (with_reducible refine c_gt ?_) | (with_reducible refine c_ge ?_) | (with_reducible refine e_int ?_) | (with_reducible refine e_str ?_) | (with_reducible refine n_int ?_) | (with_reducible refine n_str ?_) | (with_reducible refine l_tup ?_) | (with_reducible refine l_lsv ?_) | (with_reducible refine w_mth ?_) | (with_reducible refine is_str ?_) | (with_reducible refine u_tup ?_) | (with_reducible refine l_new ?_) | (with_reducible refine isN_non ?_) | (with_reducible refine notN_non ?_) | (with_reducible refine isN_tup ?_) | (with_reducible refine notN_tup ?_) | (with_reducible refine w_for ?_) | (with_reducible refine w_whl ?_) | (with_reducible refine w_ev ?_) | (with_reducible refine w_keys ?_) | (with_reducible refine w_rng ?_) | (with_reducible refine it_tup ?_) | (with_reducible refine w_dic ?_) | (with_reducible refine w_pc ?_) | (with_reducible refine w_pn ?_) | (with_reducible refine w_tg ?_) | (with_reducible refine w_ng ?_) | (with_reducible refine w_cn ?_) | (with_reducible refine w_cs ?_) | (with_reducible refine w_os ?_) | (with_reducible refine w_ov ?_) | ((with_reducible apply w_var); exact rfl) | ((with_reducible refine if_yes ?_ ?_); exact rfl) | ((with_reducible refine if_no ?_ ?_); exact rfl)))
def d_loads : IDef := ⟨1, 11, [
    .asg (.name 1) (.dic (.cons (.fld (.var 0) "first") (.tup (.cons (.con (.int 0)) (.cons (.con (.int 0)) .nil))) .nil)),
    .asg (.name 2) (.call "met" (.cons (.var 0) (.cons (.fld (.var 0) "first") .nil))),
    .for_ (.name 3) (.rng (.blt .len (.cons (.var 2) .nil))) [.for_ (.name 4) (.ev (.lc (.var 6) (.name 6) (.keys (.var 2)) (.som (.cmp .inn (.var 6) (.var 1))) [6])) [.for_ (.name 5) (.ev (.sub (.var 0) (.var 4))) [.asg (.tup [8, 9]) (.lc (.bin .add (.var 10) (.mth (.var 0) "gain" (.cons (.var 5) .nil))) (.name 10) (.ev (.sub (.var 1) (.var 4))) .non [10]), .asg (.name 7) (.bmt (.var 1) .get (.cons (.sub (.var 5) (.neg (.con (.int 1)))) (.cons (.tup (.cons (.var 8) (.cons (.var 9) .nil))) .nil))), .setsub (.var 1) (.sub (.var 5) (.neg (.con (.int 1)))) (.tup (.cons (.blt .min (.cons (.blt .int (.cons (.var 8) .nil)) (.cons (.blt .int (.cons (.sub (.var 7) (.con (.int 0))) .nil)) .nil))) (.cons (.blt .max (.cons (.blt .int (.cons (.var 9) .nil)) (.cons (.blt .int (.cons (.sub (.var 7) (.con (.int 1))) .nil)) .nil))) .nil)))]]],
    .ret (.blt .tuple (.cons (.lc (.tup (.cons (.var 4) (.star (.sub (.var 1) (.var 4)) .nil))) (.name 4) (.ev (.fld (.var 0) "places")) (.som (.cmp .inn (.var 4) (.var 1))) [4]) .nil))]⟩
def d_span : IDef := ⟨1, 5, [
    .asg (.name 1) (.call "loads" (.cons (.var 0) .nil)),
    .ret (.bin .sub (.blt .max (.cons (.lc (.var 4) (.tup [2, 3, 4]) (.ev (.var 1)) .non [2, 3, 4]) .nil)) (.blt .min (.cons (.lc (.var 3) (.tup [2, 3, 4]) (.ev (.var 1)) .non [2, 3, 4]) .nil)))]⟩
structure HasLoads (P : Prog) : Prop where
  bx : HasBox P
  me : P.df "met" = some d_met
  lo : P.df "loads" = some d_loads
  sp : P.df "span" = some d_span
/-- rows of loads -/
abbrev Lrow := Tx × Int × Int
def lrV (r : Lrow) : MV := .tup [.str r.1, .int r.2.1, .int r.2.2]
/-- the least and the greatest load of all walks to a place -/
structure LoHi (D : BoxD) (f p : Tx) (lo hi : Int) : Prop where
  a : ∃ w, Walk D f w p ∧ D.load w = lo
  b : ∃ w, Walk D f w p ∧ D.load w = hi
  c : ∀ w, Walk D f w p → lo ≤ D.load w ∧ D.load w ≤ hi
theorem LoHi.uniq {D : BoxD} {f p : Tx} {a b c d : Int} (x : LoHi D f p a b) (y : LoHi D f p c d) : a = c ∧ b = d := by
  obtain ⟨w1, h1, e1⟩ := x.a
  obtain ⟨w2, h2, e2⟩ := x.b
  obtain ⟨w3, h3, e3⟩ := y.a
  obtain ⟨w4, h4, e4⟩ := y.b
  have a1 := y.c _ h1
  have a2 := y.c _ h2
  have a3 := x.c _ h3
  have a4 := x.c _ h4
  omega
/-- what loads tells -/
structure LoadsOf (D : BoxD) (f : Tx) (rows : List Lrow) : Prop where
  ky : ∃ g : Tx → Bool, (∀ p, g p = true ↔ Reach D f p) ∧ rows.map (·.1) = D.places.filter g
  lh : ∀ r ∈ rows, LoHi D f r.1 r.2.1 r.2.2
theorem sT2 {a b : Nat} {x y : MV} {σ : Env} {st : Sto} {p : Nat} {Q : Env → Prop} (hp : st[p]? = some (.lst [x, y])) (q : Q ((σ.set a (some x)).set b (some y))) : setTgS (.tup [a, b]) (.ref p) σ st Q := ⟨[x, y], by simp [seqOf, hp], rfl, q⟩
theorem seq_tup {xs : List MV} {st : Sto} {R : List MV → Prop} (r : R xs) : ∃ ys, seqOf st (.tup xs) = some ys ∧ R ys := ⟨xs, rfl, r⟩
section
variable {P : Prog} (B : HasLoads P) {k : Nat} {st : Sto} {b ds dw : Nat} {D : BoxD} {Q : Post} {X : Xp} (h : BoxAt st b ds dw D) (wf : D.WF)
include B h wf
set_option maxHeartbeats 1000000 in
theorem loads_ok (hk : 3 ≤ k) {f : Tx} {fss : List (List Tx)} {rest : List (Tx × List (List Tx))} (hf : D.steps = (f, fss) :: rest) (ev : ∀ p, Reach D f p → ∀ ws, Walk D p ws p → D.load ws = 0)
    (q : ∀ rows st', LoadsOf D f rows → Keep [] st st' → Q (.tup (rows.map lrV)) st') : sem P k "loads" [.ref b] st Q X := by
  refine sem_go (by omega) B.lo rfl ?_
  show wpSs P _ [_, _, _, _] _ [some (.ref b), none, none, none, none, none, none, none, none, none, none] st
  have hfp : f ∈ D.places := by simp [BoxD.places, hf]
  decreasing_trivial_pre_omega
  refine f_prop h.ob B.bx.pfi ?_
  refine first_ok B.bx h (by omega) hf ?_
  decreasing_trivial_pre_omega
  refine ⟨by simp [big], ?_⟩
  decreasing_trivial_pre_omega
  refine ⟨rfl, by simp, ?_⟩
  generalize hS1 : st ++ [MO.dic false _] = S1
  have k1 : Keep [] st S1 := by rw [← hS1]; exact Keep.app _ _ _
  have l1 : S1.length = st.length + 1 := by rw [← hS1]; simp
  have d1 : S1[st.length]? = some (.dic false (ldV [(f, (0, 0))])) := by rw [← hS1]; exact get_new
  have h1 := h.keep k1 (by simp) (by simp) (by simp)
  decreasing_trivial_pre_omega
  refine f_prop h1.ob B.bx.pfi ?_
  refine first_ok B.bx h1 (by omega) hf ?_
  decreasing_trivial_pre_omega
  refine met_ok B.bx B.me (by omega) h1 wf hfp fun fs m st2 M k2 hm hge => ?_
  have k12 := k1.trans k2
  have d2 := k2.at_ _ _ (by simp) d1
  have mne : st.length ≠ m := by omega
  have lfs := M.len wf
  decreasing_trivial_pre_omega
  refine l_dic hm ?_
  have lm : (fndV fs).length = fs.length := by simp [fndV]
  rw [lm]
  refine ⟨_, rfl, by omega, by omega, ?_⟩
  have ldsub : ∀ l : Ld, LdOk D f l → l.length ≤ 40 := fun l o => by
    have h1 := len_le_of_sub o.nd o.sub
    have h2 : D.places.length = D.steps.length := by simp [BoxD.places]
    have h3 := wf.few
    simp at h1
    omega
  refine loop_go (fun pre σ st' => ∃ l x3 x4 x5 x7 x8 x9, σ = [some (.ref b), some (.ref st.length), some (.ref m), x3, x4, x5, none, x7, x8, x9, none] ∧ Keep [] st st' ∧ st'[m]? = some (.dic false (fndV fs)) ∧ st'[st.length]? = some (.dic false (ldV l)) ∧ LdOk D f l ∧ Cov D f pre.length l) ?_ (fun _ _ _ _ => True.intro) ?_ ?_
  · refine ⟨[(f, (0, 0))], none, none, none, none, none, none, rfl, k12, hm, d2, ⟨?_, by simp, by simpa using hfp⟩, ?_⟩
    · intro p lo hi e
      rw [List.lookup_cons] at e
      split at e
      · rename_i z
        simp at z e
        obtain ⟨rfl, rfl⟩ := e
        subst z
        exact ⟨⟨[], .nil, rfl⟩, [], .nil, rfl⟩
      · simp at e
    · intro w p hw hl
      have : w = [] := by simpa using hl
      subst this
      cases hw
      exact ⟨0, 0, by simp, by simp [BoxD.load], by simp [BoxD.load]⟩
  · rintro pre x r σ st3 kk _ ⟨l, x3, x4, x5, x7, x8, x9, rfl, k3, hm3, d3, ok3, cv3⟩ hkk
    decreasing_trivial_pre_omega
    refine ⟨m, fndV fs, rfl, hm3, ?_⟩
    refine ⟨by simp [keysOf, lm, big]; omega, ?_⟩
    refine loop_go (fun pre acc st' => st' = st3.set m (.dic true (fndV fs)) ∧ acc = (((keysF fs).take pre.length).filter fun p => decide (p ∈ keysL l)).map MV.str) ⟨rfl, by simp⟩ (fun _ _ _ z => by rw [z.1]; exact get_set hm3) ?_ ?_
    · rintro pre2 y r2 acc st4 kk4 e ⟨rfl, rfl⟩ hkk4
      have e : keysOf (fndV fs) = pre2 ++ y :: r2 := e
      rw [keys_fnd] at e
      obtain ⟨p, hp, rfl⟩ := item_at e
      decreasing_trivial_pre_omega
      refine i_dic (get_other mne.symm d3) rfl ?_
      rw [look_ld, Option.isSome_map, show (l.lookup p).isSome = decide (p ∈ keysL l) by
        by_cases z : p ∈ keysL l
        · rw [mem_look.mpr z]; simp [z]
        · cases e : l.lookup p with
          | none => simp [z]
          | some v => exact absurd (mem_look.mp (by rw [e]; rfl)) z]
      refine ⟨_, rfl, ?_⟩
      by_cases z : p ∈ keysL l
      · rw [decide_eq_true z]
        refine if_yes rfl ?_
        refine w_var rfl ?_
        refine hkk4 _ _ ⟨rfl, ?_⟩
        rw [List.length_append, List.length_singleton, take_succ_at hp, List.filter_append, List.map_append]
        congr 1
        rw [List.filter_cons_of_pos (by simpa using z)]
        rfl
      · rw [decide_eq_false z]
        refine if_no rfl ?_
        refine hkk4 _ _ ⟨rfl, ?_⟩
        rw [List.length_append, List.length_singleton, take_succ_at hp, List.filter_append, List.map_append]
        rw [List.filter_cons_of_neg (by simpa using z)]
        simp
    rintro acc st4 ⟨rfl, rfl⟩
    refine ⟨get_set hm3, ?_⟩
    rw [List.set_set, set_same hm3]
    have lk : (keysOf (fndV fs)).length = (keysF fs).length := by rw [keys_fnd]; simp
    rw [lk, List.take_length]
    generalize hps : (keysF fs).filter (fun p => decide (p ∈ keysL l)) = ps
    have hmp : ∀ p, Reach D f p → (p ∈ ps ↔ p ∈ keysL l) := fun p hp => by
      rw [← hps, List.mem_filter]
      simp only [decide_eq_true_eq, and_iff_right_iff_imp]
      exact fun _ => M.of_reach hp
    have hpsr : ∀ p ∈ ps, p ∈ keysL l ∧ Reach D f p := fun p hp => by
      rw [← hps, List.mem_filter] at hp
      exact ⟨by simpa using hp.2, M.reach hp.1⟩
    refine it_lst get_new ?_
    have nst : st.length ≠ st3.length := by have := (List.getElem?_eq_some_iff.mp d3).1; omega
    have nm3 : m ≠ st3.length := by have := (List.getElem?_eq_some_iff.mp hm3).1; omega
    refine loop_go (fun pre' σ st' => ∃ l' x4 x5 x7 x8 x9, σ = [some (.ref b), some (.ref st.length), some (.ref m), some x, x4, x5, none, x7, x8, x9, none] ∧ Keep [] st st' ∧ st'[m]? = some (.dic false (fndV fs)) ∧ st'[st3.length]? = some (.lst (ps.map .str)) ∧ st'[st.length]? = some (.dic false (ldV l')) ∧ LdOk D f l' ∧ Grows l l' ∧
      ∀ i p lo hi, i < pre'.length → ps[i]? = some p → Holds l p lo hi → ∀ s ∈ D.at_ p, Holds l' (tgt s) (lo + D.gain s) (hi + D.gain s)) ?_ ?_ ?_ ?_
    · exact ⟨l, x4, x5, x7, x8, x9, rfl, k3.trans (Keep.app _ _ _), get_app hm3, get_new, get_app d3, ok3, Grows.refl l, fun i p lo hi hi2 => absurd hi2 (Nat.not_lt_zero _)⟩
    · rintro _ _ _ ⟨_, _, _, _, _, _, _, _, _, z, _⟩
      exact z
    · rintro pre5 y r5 σ st5 kk5 e5 ⟨l5, y4, y5, y7, y8, y9, rfl, k5, hm5, ps5, d5, ok5, gr5, dn5⟩ hkk5
      obtain ⟨p, hp, rfl⟩ := item_at e5
      have hpm := List.mem_of_getElem? hp
      obtain ⟨hpl, hpr⟩ := hpsr p hpm
      have hpp : p ∈ D.places := ok3.sub p hpl
      have h5 := h.keep k5 (by simp) (by simp) (by simp)
      decreasing_trivial_pre_omega
      refine g_own h5.ob B.bx.mgi (getitem_ok B.bx h5 (by omega) (D.look hpp) ?_)
      decreasing_trivial_pre_omega
      obtain ⟨⟨lo0, hi0⟩, hl0⟩ := Option.isSome_iff_exists.mp (mem_look.mpr hpl)
      refine loop_go (fun pre6 σ st' => ∃ l' x5 x7 x8 x9, σ = [some (.ref b), some (.ref st.length), some (.ref m), some x, some (.str p), x5, none, x7, x8, x9, none] ∧ Keep [] st st' ∧ st'[m]? = some (.dic false (fndV fs)) ∧ st'[st3.length]? = some (.lst (ps.map .str)) ∧ st'[st.length]? = some (.dic false (ldV l')) ∧ LdOk D f l' ∧ Grows l5 l' ∧
        ∀ i s, i < pre6.length → (D.at_ p)[i]? = some s → Holds l' (tgt s) (lo0 + D.gain s) (hi0 + D.gain s)) ?_ (fun _ _ _ _ => True.intro) ?_ ?_
      · exact ⟨l5, y5, y7, y8, y9, rfl, k5, hm5, ps5, d5, ok5, Grows.refl _, fun i s hi => absurd hi (Nat.not_lt_zero _)⟩
      · rintro pre6 z r6 σ st6 kk6 e6 ⟨l6, z5, z7, z8, z9, rfl, k6, hm6, ps6, d6, ok6, gr6, dn6⟩ hkk6
        obtain ⟨s, hs, rfl⟩ := item_at (show (D.at_ p).map stepV = pre6 ++ z :: r6 from e6)
        have hsm := List.mem_of_getElem? hs
        obtain ⟨fit, sne, stp⟩ := wf.fit p s hsm
        have h6 := h.keep k6 (by simp) (by simp) (by simp)
        obtain ⟨lo6, hi6, hl6, b1, b2⟩ := gr6 p lo0 hi0 (gr5 p lo0 hi0 ⟨lo0, hi0, hl0, Int.le_refl _, Int.le_refl _⟩)
        decreasing_trivial_pre_omega
        refine g_dic d6 rfl (by rw [look_ld, hl6]; rfl) ?_
        refine it_tup ⟨by simp [big], ?_⟩
        refine ⟨True.intro, ?_⟩
        decreasing_trivial_pre_omega
        refine w_gm h6.ob rfl B.bx.mgn ?_
        decreasing_trivial_pre_omega
        refine gain_ok B.bx h6 (by omega) fit ?_
        decreasing_trivial_pre_omega
        refine ⟨True.intro, ?_⟩
        decreasing_trivial_pre_omega
        refine w_gm h6.ob rfl B.bx.mgn ?_
        decreasing_trivial_pre_omega
        refine gain_ok B.bx h6 (by omega) fit ?_
        decreasing_trivial_pre_omega
        refine ⟨True.intro, ?_⟩
        refine sT2 get_new ?_
        decreasing_trivial_pre_omega
        have d7 := get_app (t := [MO.lst (([] ++ [.int (lo6 + D.gain s)]) ++ [.int (hi6 + D.gain s)])]) d6
        refine ⟨bt_dic d7, ?_⟩
        decreasing_trivial_pre_omega
        refine g_tup (last_step sne) ?_
        decreasing_trivial_pre_omega
        refine ⟨by simp [big], ?_⟩
        decreasing_trivial_pre_omega
        refine m_get d7 rfl ?_
        generalize hmm : (l6.lookup (tgt s)).getD (lo6 + D.gain s, hi6 + D.gain s) = mm
        obtain ⟨m0, m1⟩ := mm
        have hmv : (kLook (.str (tgt s)) (ldV l6)).getD (.tup [.int (lo6 + D.gain s), .int (hi6 + D.gain s)]) = .tup [.int m0, .int m1] := by
          rw [look_ld]
          cases hh : l6.lookup (tgt s) with
          | none => rw [hh] at hmm; simp at hmm; simp [hmm]
          | some v => rw [hh] at hmm; simp at hmm; simp [hmm]
        rw [hmv]
        decreasing_trivial_pre_omega
        refine g_tup (v := .int m0) (by rfl) ?_
        decreasing_trivial_pre_omega
        refine g_tup (v := .int m1) (by rfl) ?_
        decreasing_trivial_pre_omega
        refine ⟨by simp [big], ?_⟩
        decreasing_trivial_pre_omega
        refine g_tup (last_step sne) ?_
        have ll6 := ldsub l6 ok6
        refine s_dic d7 rfl (by simp [ldV, big]; omega) ?_
        rw [put_ld l6 (tgt s) (_, _)]
        obtain ⟨ok8, gr8, ho8⟩ := ok6.step wf hsm hl6 hmm
        decreasing_trivial_pre_omega
        have l6t := (List.getElem?_eq_some_iff.mp d6).1
        refine hkk6 _ _ ⟨_, _, _, _, _, rfl, (k6.trans (Keep.app _ _ _)).new _ (Nat.le_refl _), get_other mne (get_app hm6), get_other nst (get_app ps6), get_set d7, ok8, gr6.trans gr8, ?_⟩
        intro i s' hi hs'
        simp at hi
        rcases Nat.lt_or_ge i pre6.length with w | w
        · exact gr8 _ _ _ (dn6 i s' w hs')
        · have : i = pre6.length := by omega
          subst this
          rw [hs] at hs'
          cases hs'
          obtain ⟨a1, a2, a3, a4, a5⟩ := ho8
          exact ⟨a1, a2, a3, by omega, by omega⟩
      · rintro σ st6 ⟨l6, z5, z7, z8, z9, rfl, k6, hm6, ps6, d6, ok6, gr6, dn6⟩
        decreasing_trivial_pre_omega
        refine hkk5 _ _ ⟨l6, _, z5, z7, z8, z9, rfl, k6, hm6, ps6, d6, ok6, gr5.trans gr6, ?_⟩
        intro i p' lo hi hi2 hp' hh s hs
        simp at hi2
        rcases Nat.lt_or_ge i pre5.length with w | w
        · exact gr6 _ _ _ (dn5 i p' lo hi w hp' hh s hs)
        · have : i = pre5.length := by omega
          subst this
          rw [hp] at hp'
          cases hp'
          obtain ⟨a1, a2, a3, a4, a5⟩ := hh
          rw [hl0] at a3
          cases a3
          obtain ⟨j, hj⟩ := List.getElem?_of_mem hs
          obtain ⟨c1, c2, c3, c4, c5⟩ := dn6 j s (by simpa using (List.getElem?_eq_some_iff.mp hj).1) hj
          exact ⟨c1, c2, c3, by omega, by omega⟩
    · rintro σ st5 ⟨l5, y4, y5, y7, y8, y9, rfl, k5, hm5, ps5, d5, ok5, gr5, dn5⟩
      decreasing_trivial_pre_omega
      refine hkk _ _ ⟨l5, _, y4, y5, y7, y8, y9, rfl, k5, hm5, d5, ok5, ?_⟩
      intro w p hw hl
      rcases hw.last with ⟨rfl, rfl⟩ | ⟨w', c, s, rfl, h1, hs, rfl⟩
      · exact gr5 _ _ _ (cv3 [] _ .nil (Nat.zero_le _))
      · simp at hl
        have hc := cv3 w' c h1 (by omega)
        obtain ⟨a1, a2, a3, _⟩ := id hc
        have hcl : c ∈ keysL l := mem_look.mp (by rw [a3]; rfl)
        obtain ⟨i, hi⟩ := List.getElem?_of_mem ((hmp c ⟨w', h1⟩).mpr hcl)
        have := dn5 i c _ _ (by simpa using (List.getElem?_eq_some_iff.mp hi).1) hi hc s hs
        rw [load_app]
        simpa [BoxD.load] using this
  · rintro σ st3 ⟨l, x3, x4, x5, x7, x8, x9, rfl, k3, hm3, d3, ok3, cv3⟩
    have h3 := h.keep k3 (by simp) (by simp) (by simp)
    have cv : ∀ w p, Walk D f w p → Holds l p (D.load w) (D.load w) := fun w p hw => cv3.all wf hfp ev (ks := keysF fs) (fun p hp => M.of_reach hp) (by simp) hw
    have kyr : ∀ p, p ∈ keysL l ↔ Reach D f p := fun p => by
      constructor
      · intro hp
        obtain ⟨⟨lo, hi⟩, e⟩ := Option.isSome_iff_exists.mp (mem_look.mpr hp)
        obtain ⟨⟨w, hw, _⟩, _⟩ := ok3.snd p lo hi e
        exact ⟨w, hw⟩
      · rintro ⟨w, hw⟩
        obtain ⟨a1, a2, a3, _⟩ := cv w p hw
        exact mem_look.mp (by rw [a3]; rfl)
    decreasing_trivial_pre_omega
    refine f_prop h3.ob B.bx.ppl ?_
    refine places_ok B.bx h3 (by omega) ?_
    have few := wf.few
    refine it_tup ⟨by simp [big]; omega, ?_⟩
    have hpl : (D.steps.map fun e => MV.str e.1) = D.places.map .str := by simp [BoxD.places, List.map_map, Function.comp_def]
    rw [hpl]
    refine loop_go (fun pre acc st' => st' = st3 ∧ acc = ((((D.places.take pre.length).filter fun p => decide (p ∈ keysL l)).map fun p => ((p, (l.lookup p).getD (0, 0)) : Lrow)).map lrV)) ⟨rfl, by simp⟩ (fun _ _ _ _ => True.intro) ?_ ?_
    · rintro pre2 y r2 acc st4 kk4 e ⟨rfl, rfl⟩ hkk4
      obtain ⟨p, hp, rfl⟩ := item_at e
      decreasing_trivial_pre_omega
      refine i_dic d3 rfl ?_
      rw [look_ld, Option.isSome_map]
      refine ⟨_, rfl, ?_⟩
      cases hh : l.lookup p with
      | none =>
        have z : p ∉ keysL l := fun z => by have := mem_look.mpr z; rw [hh] at this; cases this
        refine if_no rfl ?_
        refine hkk4 _ _ ⟨rfl, ?_⟩
        rw [List.length_append, List.length_singleton, take_succ_at hp, List.filter_append, List.filter_cons_of_neg (by simpa using z)]
        simp
      | some v =>
        have z : p ∈ keysL l := mem_look.mp (by rw [hh]; rfl)
        refine if_yes rfl ?_
        decreasing_trivial_pre_omega
        refine g_dic d3 rfl (by rw [look_ld, hh]; rfl) ?_
        refine seq_tup ?_
        decreasing_trivial_pre_omega
        refine ⟨by simp [big], ?_⟩
        refine hkk4 _ _ ⟨rfl, ?_⟩
        rw [List.length_append, List.length_singleton, take_succ_at hp, List.filter_append, List.filter_cons_of_pos (by simpa using z)]
        simp [lrV, hh]
    · rintro acc st4 ⟨rfl, rfl⟩
      rw [List.length_map, List.take_length]
      decreasing_trivial_pre_omega
      refine u_lst get_new ?_
      refine q _ _ ⟨⟨fun p => decide (p ∈ keysL l), fun p => by rw [decide_eq_true_eq]; exact kyr p, by simp [List.map_map, Function.comp_def]⟩, ?_⟩ (k3.trans (Keep.app _ _ _))
      intro r hr
      obtain ⟨p, hp, rfl⟩ := List.mem_map.mp hr
      rw [List.mem_filter, decide_eq_true_eq] at hp
      obtain ⟨⟨lo, hi⟩, e⟩ := Option.isSome_iff_exists.mp (mem_look.mpr hp.2)
      have e2 : (l.lookup p).getD (0, 0) = (lo, hi) := by rw [e]; rfl
      simp only [e2]
      obtain ⟨s1, s2⟩ := ok3.snd p lo hi e
      refine ⟨s1, s2, fun w hw => ?_⟩
      obtain ⟨a1, a2, a3, a4, a5⟩ := cv w p hw
      rw [e] at a3
      cases a3
      exact ⟨a4, a5⟩
end
end Mi
-- B24
namespace Mi
local macro_rules | `(tactic| decreasing_trivial_pre_omega) => `(tactic| repeat (first | (with_reducible refine w_seq ?_) | (with_reducible refine w_set ?_) | (with_reducible refine w_asg ?_) | (with_reducible refine w_par ?_) | (with_reducible refine w_setsub ?_) | (with_reducible refine w_iff ?_) | (with_reducible refine w_ret ?_) | (with_reducible refine w_expr ?_) | (with_reducible refine w_end ?_) | (with_reducible refine w_con ?_) | (with_reducible refine w_bin ?_) | (with_reducible refine w_neg ?_) | (with_reducible refine w_cmp ?_) | (with_reducible refine w_chn ?_) | (with_reducible refine w_and ?_) | (with_reducible refine w_or ?_) | (with_reducible refine w_not ?_) | (with_reducible refine w_ite ?_) | (with_reducible refine w_sub ?_) | (with_reducible refine w_sli ?_) | (with_reducible refine w_rev ?_) | (with_reducible refine w_fld ?_) | (with_reducible refine w_call ?_) | (with_reducible refine w_bmt ?_) | (with_reducible refine w_blt ?_) | (with_reducible refine w_isi ?_) | (with_reducible refine w_lst ?_) | (with_reducible refine w_tup ?_) | (with_reducible refine w_nil ?_) | (with_reducible refine w_arg ?_) | (with_reducible refine w_star ?_) | (with_reducible refine w_tr ?_) | (with_reducible refine o_add ?_) | (with_reducible refine o_sub ?_) | (with_reducible refine o_mod (by omega) ?_) | (with_reducible refine o_div (by omega) (by omega) ?_) | (with_reducible refine b_int ?_) | (with_reducible refine b_abs ?_) | (with_reducible refine b_max ?_) | (with_reducible refine b_min ?_) | (with_reducible refine c_lt ?_) | (with_reducible refine c_le ?_) | (with_reducible refine c_gt ?_) | (with_reducible refine c_ge ?_) | (with_reducible refine e_int ?_) | (with_reducible refine e_str ?_) | (with_reducible refine n_int ?_) | (with_reducible refine n_str ?_) | (with_reducible refine l_tup ?_) | (with_reducible refine l_lsv ?_) | (with_reducible refine w_mth ?_) | (with_reducible refine is_str ?_) | (with_reducible refine u_tup ?_) | (with_reducible refine l_new ?_) | (with_reducible refine isN_non ?_) | (with_reducible refine notN_non ?_) | (with_reducible refine isN_tup ?_) | (with_reducible refine notN_tup ?_) | (with_reducible refine w_for ?_) | (with_reducible refine w_whl ?_) | (with_reducible refine w_ev ?_) | (with_reducible refine w_keys ?_) | (with_reducible refine w_rng ?_) | (with_reducible refine it_tup ?_) | (with_reducible refine w_lc ?_) | (with_reducible refine w_dic ?_) | (with_reducible refine w_pc ?_) | (with_reducible refine w_pn ?_) | (with_reducible refine w_tg ?_) | (with_reducible refine w_ng ?_) | (with_reducible refine w_cn ?_) | (with_reducible refine w_cs ?_) | (with_reducible refine w_os ?_) | (with_reducible refine w_ov ?_) | ((with_reducible apply w_var); exact rfl) | ((with_reducible refine if_yes ?_ ?_); exact rfl) | ((with_reducible refine if_no ?_ ?_); exact rfl)))
local macro_rules | `(tactic| array_get_dec) => `(tactic| repeat (first | (with_reducible refine w_seq ?_) | (with_reducible refine w_set ?_) | (with_reducible refine w_asg ?_) | (with_reducible refine w_par ?_) | (with_reducible refine w_setsub ?_) | (with_reducible refine w_iff ?_) | (with_reducible refine w_ret ?_) | (with_reducible refine w_expr ?_) | (with_reducible refine w_end ?_) | (with_reducible refine w_con ?_) | (with_reducible refine w_bin ?_) | (with_reducible refine w_neg ?_) | (with_reducible refine w_cmp ?_) | (with_reducible refine w_chn ?_) | (with_reducible refine w_and ?_) | (with_reducible refine w_or ?_) | (with_reducible refine w_not ?_) | (with_reducible refine w_ite ?_) | (with_reducible refine w_sub ?_) | (with_reducible refine w_sli ?_) | (with_reducible refine w_rev ?_) | (with_reducible refine w_fld ?_) | (with_reducible refine w_call ?_) | (with_reducible refine w_bmt ?_) | (with_reducible refine w_blt ?_) | (with_reducible refine w_isi ?_) | (with_reducible refine w_lst ?_) | (with_reducible refine w_tup ?_) | (with_reducible refine w_nil ?_) | (with_reducible refine w_arg ?_) | (with_reducible refine w_star ?_) | (with_reducible refine w_tr ?_) | (with_reducible refine o_add ?_) | (with_reducible refine o_sub ?_) | (with_reducible refine o_mod (by omega) ?_) | (with_reducible refine o_div (by omega) (by omega) ?_) | (with_reducible refine b_int ?_) | (with_reducible refine b_abs ?_) | (with_reducible refine b_max ?_) | (with_reducible refine b_min ?_) | (with_reducible refine c_lt ?_) | (with_reducible refine c_le ?_) | (with_reducible refine c_gt ?_) | (with_reducible refine c_ge ?_) | (with_reducible refine e_int ?_) | (with_reducible refine e_str ?_) | (with_reducible refine n_int ?_) | (with_reducible refine n_str ?_) | (with_reducible refine l_tup ?_) | (with_reducible refine l_lsv ?_) | (with_reducible refine w_mth ?_) | (with_reducible refine is_str ?_) | (with_reducible refine u_tup ?_) | (with_reducible refine l_new ?_) | (with_reducible refine isN_non ?_) | (with_reducible refine notN_non ?_) | (with_reducible refine isN_tup ?_) | (with_reducible refine notN_tup ?_) | (with_reducible refine w_for ?_) | (with_reducible refine w_whl ?_) | (with_reducible refine w_ev ?_) | (with_reducible refine w_keys ?_) | (with_reducible refine w_rng ?_) | (with_reducible refine it_tup ?_) | (with_reducible refine w_dic ?_) | (with_reducible refine w_pc ?_) | (with_reducible refine w_pn ?_) | (with_reducible refine w_tg ?_) | (with_reducible refine w_ng ?_) | (with_reducible refine w_cn ?_) | (with_reducible refine w_cs ?_) | (with_reducible refine w_os ?_) | (with_reducible refine w_ov ?_) | ((with_reducible apply w_var); exact rfl) | ((with_reducible refine if_yes ?_ ?_); exact rfl) | ((with_reducible refine if_no ?_ ?_); exact rfl)))
theorem has_max : ∀ l : List Int, l ≠ [] → ∃ m, m ∈ l ∧ ∀ y ∈ l, y ≤ m
  | [], h => absurd rfl h
  | [a], _ => ⟨a, by simp, by simp⟩
  | a :: b :: r, _ => by
    obtain ⟨m, h1, h2⟩ := has_max (b :: r) (by simp)
    by_cases h : m ≤ a
    · refine ⟨a, by simp, fun y hy => ?_⟩
      rcases List.mem_cons.mp hy with rfl | z
      · exact Int.le_refl _
      · have := h2 y z; omega
    · refine ⟨m, List.mem_cons_of_mem _ h1, fun y hy => ?_⟩
      rcases List.mem_cons.mp hy with rfl | z
      · omega
      · exact h2 y z
theorem has_min (l : List Int) (h : l ≠ []) : ∃ m, m ∈ l ∧ ∀ y ∈ l, m ≤ y := by
  obtain ⟨m, h1, h2⟩ := has_max (l.map fun x => -x) (by simpa using h)
  obtain ⟨x, hx, rfl⟩ := List.mem_map.mp h1
  exact ⟨x, hx, fun y hy => by have := h2 (-y) (List.mem_map_of_mem hy); omega⟩
theorem b_maxl {rp : PD → Tx} {st : Sto} {Q : Post} {p : Nat} {ns : List Int} {m : Int} (h : st[p]? = some (.lst (ns.map .int))) (h1 : m ∈ ns) (h2 : ∀ y ∈ ns, y ≤ m) (q : Q (.int m) st) : opBlt rp .max [.ref p] st Q := ⟨ns, m, h, h1, h2, q⟩
theorem b_minl {rp : PD → Tx} {st : Sto} {Q : Post} {p : Nat} {ns : List Int} {m : Int} (h : st[p]? = some (.lst (ns.map .int))) (h1 : m ∈ ns) (h2 : ∀ y ∈ ns, m ≤ y) (q : Q (.int m) st) : opBlt rp .min [.ref p] st Q := ⟨ns, m, h, h1, h2, q⟩
theorem LoadsOf.ne {D : BoxD} {f : Tx} {rows : List Lrow} (h : LoadsOf D f rows) (hf : f ∈ D.places) : rows ≠ [] := by
  obtain ⟨g, h1, h2⟩ := h.ky
  rintro rfl
  have : f ∈ D.places.filter g := List.mem_filter.mpr ⟨hf, (h1 f).mpr ⟨[], .nil⟩⟩
  rw [← h2] at this
  simp at this
section
variable {P : Prog} (B : HasLoads P) {k : Nat} {st : Sto} {b ds dw : Nat} {D : BoxD} {Q : Post} {X : Xp} (h : BoxAt st b ds dw D) (wf : D.WF)
include B h wf
set_option maxHeartbeats 1000000 in
theorem span_ok (hk : 4 ≤ k) {f : Tx} {fss : List (List Tx)} {rest : List (Tx × List (List Tx))} (hf : D.steps = (f, fss) :: rest) (ev : ∀ p, Reach D f p → ∀ ws, Walk D p ws p → D.load ws = 0)
    (q : ∀ (rows : List Lrow) hi lo st', LoadsOf D f rows → hi ∈ rows.map (·.2.2) → (∀ y ∈ rows.map (·.2.2), y ≤ hi) → lo ∈ rows.map (·.2.1) → (∀ y ∈ rows.map (·.2.1), lo ≤ y) → Keep [] st st' → Q (.int (hi - lo)) st') : sem P k "span" [.ref b] st Q X := by
  refine sem_go (by omega) B.sp rfl ?_
  show wpSs P _ [_, _] _ [some (.ref b), none, none, none, none] st
  have hfp : f ∈ D.places := by simp [BoxD.places, hf]
  decreasing_trivial_pre_omega
  refine loads_ok B h wf (by omega) hf ev fun rows st1 lo k1 => ?_
  have ne := lo.ne hfp
  have rl : rows.length ≤ 40 := by
    obtain ⟨g, h1, h2⟩ := lo.ky
    have a := congrArg List.length h2
    have c := List.length_filter_le g D.places
    have d : D.places.length = D.steps.length := by simp [BoxD.places]
    have e := wf.few
    simp at a
    omega
  decreasing_trivial_pre_omega
  refine ⟨by simp [big]; omega, ?_⟩
  refine loop_go (fun pre acc st' => st' = st1 ∧ acc = (((rows.take pre.length).map (·.2.2)).map MV.int)) ⟨rfl, by simp⟩ (fun _ _ _ _ => True.intro) ?_ ?_
  · rintro pre x r acc st2 kk e ⟨rfl, rfl⟩ hkk
    obtain ⟨y, hy, rfl⟩ := item_at e
    refine w_tt rfl ?_
    decreasing_trivial_pre_omega
    exact hkk _ _ ⟨rfl, by rw [List.length_append, List.length_singleton, take_succ_at hy]; simp⟩
  rintro acc st2 ⟨rfl, rfl⟩
  rw [List.length_map, List.take_length]
  obtain ⟨hi, m1, m2⟩ := has_max (rows.map (·.2.2)) (by simpa using ne)
  decreasing_trivial_pre_omega
  refine b_maxl get_new m1 m2 ?_
  decreasing_trivial_pre_omega
  refine ⟨by simp [big]; omega, ?_⟩
  generalize hS : st2 ++ [MO.lst _] = S
  have kS : Keep [] st S := by rw [← hS]; exact k1.trans (Keep.app _ _ _)
  refine loop_go (fun pre acc st' => st' = S ∧ acc = (((rows.take pre.length).map (·.2.1)).map MV.int)) ⟨rfl, by simp⟩ (fun _ _ _ _ => True.intro) ?_ ?_
  · rintro pre x r acc st2 kk e ⟨rfl, rfl⟩ hkk
    obtain ⟨y, hy, rfl⟩ := item_at e
    refine w_tt rfl ?_
    decreasing_trivial_pre_omega
    exact hkk _ _ ⟨rfl, by rw [List.length_append, List.length_singleton, take_succ_at hy]; simp⟩
  rintro acc st3 ⟨e9, rfl⟩
  have e9 := e9.symm
  subst e9
  rw [List.length_map, List.take_length]
  obtain ⟨lo2, n1, n2⟩ := has_min (rows.map (·.2.1)) (by simpa using ne)
  decreasing_trivial_pre_omega
  refine b_minl get_new n1 n2 ?_
  decreasing_trivial_pre_omega
  exact q rows hi lo2 _ lo m1 m2 n1 n2 (kS.trans (Keep.app _ _ _))
end
end Mi
-- B25
namespace Mi
local macro_rules | `(tactic| decreasing_trivial_pre_omega) => `(tactic| repeat (first | (with_reducible refine w_seq ?_) | (with_reducible refine w_set ?_) | (with_reducible refine w_asg ?_) | (with_reducible refine w_par ?_) | (with_reducible refine w_setsub ?_) | (with_reducible refine w_iff ?_) | (with_reducible refine w_ret ?_) | (with_reducible refine w_expr ?_) | (with_reducible refine w_end ?_) | (with_reducible refine w_con ?_) | (with_reducible refine w_bin ?_) | (with_reducible refine w_neg ?_) | (with_reducible refine w_cmp ?_) | (with_reducible refine w_chn ?_) | (with_reducible refine w_and ?_) | (with_reducible refine w_or ?_) | (with_reducible refine w_not ?_) | (with_reducible refine w_ite ?_) | (with_reducible refine w_sub ?_) | (with_reducible refine w_sli ?_) | (with_reducible refine w_rev ?_) | (with_reducible refine w_fld ?_) | (with_reducible refine w_call ?_) | (with_reducible refine w_bmt ?_) | (with_reducible refine w_blt ?_) | (with_reducible refine w_isi ?_) | (with_reducible refine w_lst ?_) | (with_reducible refine w_tup ?_) | (with_reducible refine w_nil ?_) | (with_reducible refine w_arg ?_) | (with_reducible refine w_star ?_) | (with_reducible refine w_tr ?_) | (with_reducible refine o_add ?_) | (with_reducible refine o_sub ?_) | (with_reducible refine o_mod (by omega) ?_) | (with_reducible refine o_div (by omega) (by omega) ?_) | (with_reducible refine b_int ?_) | (with_reducible refine b_abs ?_) | (with_reducible refine b_max ?_) | (with_reducible refine b_min ?_) | (with_reducible refine c_lt ?_) | (with_reducible refine c_le ?_) | (with_reducible refine c_gt ?_) | (with_reducible refine c_ge ?_) | (with_reducible refine e_int ?_) | (with_reducible refine e_str ?_) | (with_reducible refine n_int ?_) | (with_reducible refine n_str ?_) | (with_reducible refine l_tup ?_) | (with_reducible refine l_lsv ?_) | (with_reducible refine w_mth ?_) | (with_reducible refine is_str ?_) | (with_reducible refine u_tup ?_) | (with_reducible refine l_new ?_) | (with_reducible refine isN_non ?_) | (with_reducible refine notN_non ?_) | (with_reducible refine isN_tup ?_) | (with_reducible refine notN_tup ?_) | (with_reducible refine w_for ?_) | (with_reducible refine w_whl ?_) | (with_reducible refine w_ev ?_) | (with_reducible refine w_keys ?_) | (with_reducible refine w_rng ?_) | (with_reducible refine it_tup ?_) | (with_reducible refine w_lc ?_) | (with_reducible refine w_dic ?_) | (with_reducible refine w_pc ?_) | (with_reducible refine w_pn ?_) | (with_reducible refine w_tg ?_) | (with_reducible refine w_ng ?_) | (with_reducible refine w_cn ?_) | (with_reducible refine w_cs ?_) | (with_reducible refine w_os ?_) | (with_reducible refine w_ov ?_) | ((with_reducible apply w_var); exact rfl) | ((with_reducible refine if_yes ?_ ?_); exact rfl) | ((with_reducible refine if_no ?_ ?_); exact rfl)))
local macro_rules | `(tactic| array_get_dec) => `(tactic| repeat (first | (with_reducible refine w_seq ?_) | (with_reducible refine w_set ?_) | (with_reducible refine w_asg ?_) | (with_reducible refine w_par ?_) | (with_reducible refine w_setsub ?_) | (with_reducible refine w_iff ?_) | (with_reducible refine w_ret ?_) | (with_reducible refine w_expr ?_) | (with_reducible refine w_end ?_) | (with_reducible refine w_con ?_) | (with_reducible refine w_bin ?_) | (with_reducible refine w_neg ?_) | (with_reducible refine w_cmp ?_) | (with_reducible refine w_chn ?_) | (with_reducible refine w_and ?_) | (with_reducible refine w_or ?_) | (with_reducible refine w_not ?_) | (with_reducible refine w_ite ?_) | (with_reducible refine w_sub ?_) | (with_reducible refine w_sli ?_) | (with_reducible refine w_rev ?_) | (with_reducible refine w_fld ?_) | (with_reducible refine w_call ?_) | (with_reducible refine w_bmt ?_) | (with_reducible refine w_blt ?_) | (with_reducible refine w_isi ?_) | (with_reducible refine w_lst ?_) | (with_reducible refine w_tup ?_) | (with_reducible refine w_nil ?_) | (with_reducible refine w_arg ?_) | (with_reducible refine w_star ?_) | (with_reducible refine w_tr ?_) | (with_reducible refine o_add ?_) | (with_reducible refine o_sub ?_) | (with_reducible refine o_mod (by omega) ?_) | (with_reducible refine o_div (by omega) (by omega) ?_) | (with_reducible refine b_int ?_) | (with_reducible refine b_abs ?_) | (with_reducible refine b_max ?_) | (with_reducible refine b_min ?_) | (with_reducible refine c_lt ?_) | (with_reducible refine c_le ?_) | (with_reducible refine c_gt ?_) | (with_reducible refine c_ge ?_) | (with_reducible refine e_int ?_) | (with_reducible refine e_str ?_) | (with_reducible refine n_int ?_) | (with_reducible refine n_str ?_) | (with_reducible refine l_tup ?_) | (with_reducible refine l_lsv ?_) | (with_reducible refine w_mth ?_) | (with_reducible refine is_str ?_) | (with_reducible refine u_tup ?_) | (with_reducible refine l_new ?_) | (with_reducible refine isN_non ?_) | (with_reducible refine notN_non ?_) | (with_reducible refine isN_tup ?_) | (with_reducible refine notN_tup ?_) | (with_reducible refine w_for ?_) | (with_reducible refine w_whl ?_) | (with_reducible refine w_ev ?_) | (with_reducible refine w_keys ?_) | (with_reducible refine w_rng ?_) | (with_reducible refine it_tup ?_) | (with_reducible refine w_dic ?_) | (with_reducible refine w_pc ?_) | (with_reducible refine w_pn ?_) | (with_reducible refine w_tg ?_) | (with_reducible refine w_ng ?_) | (with_reducible refine w_cn ?_) | (with_reducible refine w_cs ?_) | (with_reducible refine w_os ?_) | (with_reducible refine w_ov ?_) | ((with_reducible apply w_var); exact rfl) | ((with_reducible refine if_yes ?_ ?_); exact rfl) | ((with_reducible refine if_no ?_ ?_); exact rfl)))
/-! ### draws -/
def d_pot (m1 m2 m3 m4 m5 : Int) : IDef := ⟨2, 5, [
    .asg (.name 2) (.ite (.cmp .lt (.var 1) (.blt .len (.cons (.var 0) .nil))) (.sub (.var 0) (.var 1)) (.bin .add (.bin .mul (.con (.int m1)) (.var 1)) (.con (.int m2)))),
    .asg (.name 3) (.bin .mul (.bin .mod (.blt .int (.cons (.blt .abs (.cons (.var 2) .nil)) .nil)) (.bin .pow (.bin .pow (.con (.int 10)) (.con (.int 60))) (.con (.int 5)))) (.blt .int (.cons (.cmp .ge (.blt .abs (.cons (.var 2) .nil)) (.bin .pow (.con (.int 10)) (.con (.int 18)))) .nil))),
    .asg (.name 4) (.bin .mod (.blt .int (.cons (.var 2) .nil)) (.con (.int 2305843009213693951))),
    .ret (.lst (.cons (.var 3) (.cons (.bin .mod (.blt .int (.cons (.bin .add (.bin .add (.bin .mul (.var 4) (.con (.int m3))) (.bin .mul (.bin .mul (.con (.int m4)) (.var 1)) (.var 1))) (.con (.int m5))) .nil)) (.con (.int 2305843009213693921))) (.cons (.con (.int 0)) .nil))))]⟩
theorem g_lsv {P : Prog} {F : Phi} {st : Sto} {Q : Post} {X : Xp} {xs : List MV} {n : Int} {v : MV} (hv : (ixOf xs.length n).bind (xs[·]?) = some v) (q : Q v st) : opGet P F (.lsv xs) (.int n) st Q X := .inl ⟨n, v, rfl, hv, q⟩
theorem b_intb {rp : PD → Tx} {i : Bool} {st : Sto} {Q : Post} (q : Q (.int (if i then 1 else 0)) st) : opBlt rp .int [.bl i] st Q := q
theorem ten60 : (10 : Int) ^ (60 : Int).toNat = 1000000000000000000000000000000000000000000000000000000000000 := by decide +kernel
theorem ten18 : (10 : Int) ^ (18 : Int).toNat = 1000000000000000000 := by decide +kernel
theorem ten300 : 0 < (1000000000000000000000000000000000000000000000000000000000000 : Int) ^ (5 : Int).toNat := by decide +kernel
theorem pot_ok {P : Prog} {m1 m2 m3 m4 m5 : Int} (hm : 0 ≤ m1 ∧ m1 < 1000000 ∧ 0 ≤ m3 ∧ m3 < 1000000 ∧ 0 ≤ m4 ∧ m4 < 1000000) {nm : String} (hP : P.df nm = some (d_pot m1 m2 m3 m4 m5)) {k : Nat} (hk : 1 ≤ k) {ns : List Int} {i : Nat} {st : Sto} {Q : Post} {X : Xp}
    (hi : i < 1000) (q : ∀ p st', Pot 900000 st' p → Keep [] st st' → st.length ≤ p → Q (.ref p) st') : sem P k nm [.lsv (ns.map .int), .int i] st Q X := by
  refine sem_go hk hP rfl ?_
  show wpSs P _ [_, _, _, _] _ [some (.lsv (ns.map .int)), some (.int i), none, none, none] st
  have fin : ∀ c : Int, wpSs P (sem P (k - 1)) [
    .asg (.name 3) (.bin .mul (.bin .mod (.blt .int (.cons (.blt .abs (.cons (.var 2) .nil)) .nil)) (.bin .pow (.bin .pow (.con (.int 10)) (.con (.int 60))) (.con (.int 5)))) (.blt .int (.cons (.cmp .ge (.blt .abs (.cons (.var 2) .nil)) (.bin .pow (.con (.int 10)) (.con (.int 18)))) .nil))),
    .asg (.name 4) (.bin .mod (.blt .int (.cons (.var 2) .nil)) (.con (.int 2305843009213693951))),
    .ret (.lst (.cons (.var 3) (.cons (.bin .mod (.blt .int (.cons (.bin .add (.bin .add (.bin .mul (.var 4) (.con (.int m3))) (.bin .mul (.bin .mul (.con (.int m4)) (.var 1)) (.var 1))) (.con (.int m5))) .nil)) (.con (.int 2305843009213693921))) (.cons (.con (.int 0)) .nil))))]
      ⟨fun _ st' => Q .non st', Q, fun _ _ => False, fun _ _ => False, fun c v _ st' => X c v st'⟩ [some (.lsv (ns.map .int)), some (.int i), some (.int c), none, none] st := by
    intro c
    decreasing_trivial_pre_omega
    refine o_pow (by decide) (by decide) (by decide +kernel) ?_
    rw [ten60]
    decreasing_trivial_pre_omega
    refine o_pow (by decide) (by decide) (by decide +kernel) ?_
    refine o_mod ten300 ?_
    decreasing_trivial_pre_omega
    refine o_pow (by decide) (by decide) (by decide +kernel) ?_
    rw [ten18]
    generalize hA : (if c < 0 then -c else c) = A
    decreasing_trivial_pre_omega
    refine b_intb ?_
    generalize hM : A % _ = M
    have hM0 : 0 ≤ M := by rw [← hM]; exact Int.emod_nonneg _ (Int.ne_of_gt ten300)
    refine o_mul (.inr (by split <;> decide)) ?_
    decreasing_trivial_pre_omega
    have h1 : 0 ≤ c % 2305843009213693951 := Int.emod_nonneg _ (by decide)
    have h2 : c % 2305843009213693951 < 2305843009213693951 := Int.emod_lt_of_pos _ (by decide)
    refine o_mul (.inl (nA h1 (by omega))) ?_
    decreasing_trivial_pre_omega
    refine o_mul (.inr (by omega)) ?_
    decreasing_trivial_pre_omega
    refine o_mul (.inr (by omega)) ?_
    decreasing_trivial_pre_omega
    refine ⟨by simp [big], ?_⟩
    refine q _ _ ⟨_, _, _, get_new, ?_, Int.emod_nonneg _ (by decide), ?_, by omega, by omega⟩ (Keep.app _ _ _) (Nat.le_refl _)
    · exact Int.mul_nonneg hM0 (by split <;> decide)
    · have := Int.emod_lt_of_pos (c % 2305843009213693951 * m3 + m4 * (i : Int) * (i : Int) + m5) (b := 2305843009213693921) (by decide)
      omega
  decreasing_trivial_pre_omega
  by_cases h : (i : Int) < ((ns.map MV.int).length : Int)
  · rw [decide_eq_true h]
    refine if_yes rfl ?_
    decreasing_trivial_pre_omega
    have hi2 : i < (ns.map MV.int).length := by omega
    refine g_lsv (v := .int (ns[i]'(by simpa using hi2))) (by rw [ix_nat hi2]; simp) ?_
    exact fin _
  · rw [decide_eq_false h]
    refine if_no rfl ?_
    decreasing_trivial_pre_omega
    refine o_mul (.inr (by omega)) ?_
    refine w_con ?_
    refine o_add ?_
    exact fin _
def d_of : IDef := ⟨2, 2, [
    .ret (.sub (.var 1) (.call "_law_take" (.cons (.var 0) (.cons (.blt .len (.cons (.var 1) .nil)) .nil))))]⟩
def d_some : IDef := ⟨3, 6, [
    .par [4, 5] (.cons (.blt .list (.cons (.var 1) .nil)) (.cons (.lst .nil) .nil)),
    .for_ (.name 3) (.rng (.var 2)) [.expr (.bmt (.var 5) .append (.cons (.bmt (.var 4) .pop (.cons (.call "_law_take" (.cons (.var 0) (.cons (.blt .len (.cons (.var 4) .nil)) .nil))) .nil)) .nil))],
    .ret (.var 5)]⟩
def d_cells : IDef := ⟨2, 2, [
    .ret (.lrg (.blt .max (.cons (.con (.int 1)) (.cons (.blt .min (.cons (.var 1) (.cons (.blt .len (.cons (.var 0) .nil)) .nil))) .nil))))]⟩
/-- the law draws so -/
def Draws (P : Prog) : Prop := ∀ {k : Nat}, 1 ≤ k → ∀ {p m : Nat} {n : Int} {st : Sto} {Q : Post} {X : Xp}, Pot (m + 1) st p → 0 < n → n < 1000 → (∀ (d : Nat) st', (d : Int) < n → Pot m st' p → Keep [p] st st' → Q (.int d) st') → sem P k "_law_take" [.ref p, .int n] st Q X
theorem Draws.mk {P : Prog} {m1 m2 m3 m4 : Int} (hm : 0 ≤ m1 ∧ m1 < 1000000 ∧ 0 ≤ m2 ∧ m2 < 1000000 ∧ 0 < m3 ∧ m3 < 1000000 ∧ 0 ≤ m4 ∧ m4 < 1000000) (hP : P.df "_law_take" = some (d_take m1 m2 m3 m4)) : Draws P := by
  intro k hk p m n st Q X hp hn hn2 q
  refine take_ok hm hP hk hp hn hn2 fun d st' h1 h2 h3 h4 => ?_
  obtain ⟨e, rfl⟩ : ∃ e : Nat, d = e := ⟨d.toNat, by omega⟩
  exact q e st' h2 h3 h4
theorem of_ok {P : Prog} (T : Draws P) (hP : P.df "_law_of" = some d_of) {k : Nat} (hk : 2 ≤ k) {p m a : Nat} {xs : List MV} {st : Sto} {Q : Post} {X : Xp} (hp : Pot (m + 1) st p) (ha : st[a]? = some (.lst xs)) (ne : a ≠ p) (h1 : xs ≠ []) (h2 : xs.length < 1000)
    (q : ∀ v st', v ∈ xs → Pot m st' p → Keep [p] st st' → Q v st') : sem P k "_law_of" [.ref p, .ref a] st Q X := by
  refine sem_go (by omega) hP rfl ?_
  show wpSs P _ [_] _ [some (.ref p), some (.ref a)] st
  have hl : 0 < xs.length := List.length_pos_iff.mpr h1
  decreasing_trivial_pre_omega
  refine l_lst ha ?_
  decreasing_trivial_pre_omega
  refine T (by omega) hp (by omega) (by omega) fun d st' hd hp' k' => ?_
  have hd : d < xs.length := by omega
  refine g_lst (k'.at_ _ _ (by simpa using ne) ha) (at_n d (List.getElem?_eq_getElem hd)) ?_
  exact q _ _ (List.getElem_mem hd) hp' k'
theorem erase_perm {α : Type} : ∀ (l : List α) (i : Nat) (h : i < l.length), List.Perm ([l[i]] ++ l.eraseIdx i) l
  | [], i, h => by simp at h
  | a :: l, 0, h => by simp
  | a :: l, i + 1, h => by
    have := erase_perm l i (by simpa using h)
    simp only [List.getElem_cons_succ, List.eraseIdx_cons_succ, List.singleton_append] at this ⊢
    exact (List.Perm.swap _ _ _).trans (List.Perm.cons a this)
theorem some_ok {P : Prog} (T : Draws P) (hP : P.df "_law_some" = some d_some) {k : Nat} (hk : 2 ≤ k) {p m a n : Nat} {xs : List MV} {st : Sto} {Q : Post} {X : Xp} (hp : Pot (m + n) st p) (ha : st[a]? = some (.lst xs)) (h1 : n ≤ xs.length) (h2 : xs.length < 1000)
    (q : ∀ b ys r st', List.Perm (ys ++ r) xs → ys.length = n → st'[b]? = some (.lst ys) → st.length ≤ b → Pot m st' p → Keep [p] st st' → Q (.ref b) st') : sem P k "_law_some" [.ref p, .ref a, .int n] st Q X := by
  refine sem_go (by omega) hP rfl ?_
  show wpSs P _ [_, _, _] _ [some (.ref p), some (.ref a), some (.int n), none, none, none] st
  have pl : p < st.length := by obtain ⟨x, y, z, e, _⟩ := hp; exact (List.getElem?_eq_some_iff.mp e).1
  decreasing_trivial_pre_omega
  refine l_cpy ha ?_
  decreasing_trivial_pre_omega
  refine ⟨by simp [big], ?_⟩
  decreasing_trivial_pre_omega
  refine ⟨rfl, ?_⟩
  decreasing_trivial_pre_omega
  refine ⟨by omega, by omega, ?_⟩
  refine loop_go (fun pre σ st' => ∃ x3 ys r, σ = [some (.ref p), some (.ref a), some (.int n), x3, some (.ref st.length), some (.ref (st.length + 1))] ∧ Keep [p] st st' ∧ st'[st.length]? = some (.lst r) ∧ st'[st.length + 1]? = some (.lst ys) ∧ List.Perm (ys ++ r) xs ∧ ys.length = pre.length ∧ pre.length ≤ n ∧ Pot (m + (n - pre.length)) st' p) ?_ (fun _ _ _ _ => True.intro) ?_ ?_
  · refine ⟨none, [], xs, by simp, (Keep.app _ _ _).trans (Keep.app _ _ _), get_app get_new, ?_, by simp, rfl, Nat.zero_le _, hp.keep ((Keep.app [] _ _).trans (Keep.app [] _ _)) (by simp)⟩
    rw [show st.length + 1 = (st ++ [MO.lst xs]).length by simp]
    exact get_new
  · rintro pre x rest σ st2 kk e ⟨x3, ys, r, rfl, k2, r2, y2, pm, hy, hpn, pot2⟩ hkk
    have hlt : pre.length < n := by
      have := congrArg List.length (show ((List.range (n : Int).toNat).map fun (i : Nat) => MV.int (i : Int)) = pre ++ x :: rest from e)
      simp at this
      omega
    have hrl : ys.length + r.length = xs.length := by have := pm.length_eq; simpa using this
    decreasing_trivial_pre_omega
    refine ⟨bt_lst y2 rfl, ?_⟩
    decreasing_trivial_pre_omega
    refine ⟨bt_lst r2 rfl, ?_⟩
    decreasing_trivial_pre_omega
    refine l_lst r2 ?_
    decreasing_trivial_pre_omega
    have hpot : Pot (m + (n - (pre.length + 1)) + 1) st2 p := by
      rw [show m + (n - (pre.length + 1)) + 1 = m + (n - pre.length) by omega]
      exact pot2
    refine T (m := m + (n - (pre.length + 1))) (by omega) hpot (by omega) (by omega) fun d st3 hd pot3 k3 => ?_
    have r3 := k3.at_ _ _ (by simp; omega) r2
    have y3 := k3.at_ _ _ (by simp; omega) y2
    have hd : d < r.length := by omega
    decreasing_trivial_pre_omega
    refine m_pop r3 (by simp [big]; omega) (ix_nat hd) (List.getElem?_eq_getElem hd) ?_
    decreasing_trivial_pre_omega
    refine m_app (get_other (by omega) y3) (by simp [big]; omega) ?_
    decreasing_trivial_pre_omega
    have k4 := k2.trans k3
    refine hkk _ _ ⟨_, ys ++ [r[d]], r.eraseIdx d, rfl, (k4.new _ (Nat.le_refl _)).new _ (by omega), ?_, ?_, ?_, by simp [hy], by simp; omega, ?_⟩
    · rw [get_other (by omega) (get_set r3)]
    · exact get_set (get_other (by omega) y3)
    · refine List.Perm.trans ?_ pm
      rw [List.append_assoc]
      refine List.Perm.append_left _ ?_
      exact erase_perm r d hd
    · rw [show (pre ++ [x]).length = pre.length + 1 by simp]
      refine (pot3.keep (Keep.set (W := [st.length]) _ (by simp)) (by simp; omega)).keep (Keep.set (W := [st.length + 1]) _ (by simp)) (by simp; omega)
  · rintro σ st2 ⟨x3, ys, r, rfl, k2, r2, y2, pm, hy, hpn, pot2⟩
    have hl : ((List.range (n : Int).toNat).map fun (i : Nat) => MV.int (i : Int)).length = n := by simp
    rw [hl] at hy pot2
    decreasing_trivial_pre_omega
    exact q _ ys r _ pm hy y2 (by omega) (by simpa using pot2) k2
theorem w_lrg {P : Prog} {F : Phi} {σ : Env} {st : Sto} {Q : Post} {X : Xp} {a : IE} (h : wpE P F a σ st (fun x st1 => ∃ n : Int, x = .int n ∧ -1000000 ≤ n ∧ n ≤ 1000000 ∧ Q (.ref st1.length) (st1 ++ [.lst ((List.range n.toNat).map fun (i : Nat) => .int (i : Int))])) X) : wpE P F (.lrg a) σ st Q X := h
theorem cells_ok {P : Prog} (hP : P.df "_law_cells" = some d_cells) {k : Nat} (hk : 1 ≤ k) {xs : List MV} {n : Nat} {st : Sto} {Q : Post} {X : Xp} (hn : n < 1000)
    (q : ∀ c : Nat, c ≤ n ∨ c ≤ 1 → Q (.ref st.length) (st ++ [.lst ((List.range c).map fun (i : Nat) => .int (i : Int))])) : sem P k "_law_cells" [.lsv xs, .int n] st Q X := by
  refine sem_go hk hP rfl ?_
  show wpSs P _ [_] _ [some (.lsv xs), some (.int n)] st
  decreasing_trivial_pre_omega
  refine w_lrg ?_
  decreasing_trivial_pre_omega
  generalize hm : (if (xs.length : Int) < (n : Int) then (xs.length : Int) else (n : Int)) = m
  have h0 : 0 ≤ m ∧ m ≤ n := by rw [← hm]; split <;> omega
  generalize hc : (if m > 1 then m else 1) = c
  have h1 : 0 ≤ c ∧ (c ≤ n ∨ c ≤ 1) := by rw [← hc]; split <;> omega
  refine ⟨by omega, by omega, ?_⟩
  obtain ⟨e, rfl⟩ : ∃ e : Nat, c = e := ⟨c.toNat, by omega⟩
  exact q e (by omega)
def d_lawall (n : Int) : IDef := ⟨1, 2, [
    .ret (.blt .all (.cons (.lc (.call "_law_right" (.cons (.call "_law_pot" (.cons (.var 0) (.cons (.var 1) .nil))) .nil)) (.name 1) (.ev (.call "_law_cells" (.cons (.var 0) (.cons (.con (.int n)) .nil)))) .non [1]) .nil))]⟩
/-- the whole law: each cell is right -/
theorem law_all {P : Prog} {n : Nat} (hn : n < 100) (hL : P.df "law" = some (d_lawall n)) (hC : P.df "_law_cells" = some d_cells) {m1 m2 m3 m4 m5 : Int} (hm : 0 ≤ m1 ∧ m1 < 1000000 ∧ 0 ≤ m3 ∧ m3 < 1000000 ∧ 0 ≤ m4 ∧ m4 < 1000000) (hP : P.df "_law_pot" = some (d_pot m1 m2 m3 m4 m5)) {k : Nat}
    (hR : ∀ p st Q X, Pot 900000 st p → (∀ st', Keep [p] st st' → Q (.bl true) st') → sem P k "_law_right" [.ref p] st Q X) (ns : List Int) (Q : Post) (X : Xp) (q : ∀ st, Q (.bl true) st) : 1 ≤ k → sem P (k + 1) "law" [.lsv (ns.map .int)] [] Q X := by
  intro hk
  refine sem_go (by omega) hL rfl ?_
  show wpSs P (sem P k) [_] _ [some (.lsv (ns.map .int)), none] []
  decreasing_trivial_pre_omega
  refine cells_ok hC hk (by omega) fun c hc => ?_
  refine it_lst get_new ⟨by simp [big]; omega, ?_⟩
  refine loop_go (fun pre acc st' => ∃ st0, Keep [] ([] ++ [MO.lst ((List.range c).map fun (i : Nat) => .int (i : Int))]) st' ∧ acc = (pre.map fun _ => true).map MV.bl ∧ st0 = st') ⟨_, Keep.refl _ _, rfl, rfl⟩ (fun _ _ _ ⟨_, z, _⟩ => z.at_ _ _ (by simp) get_new) ?_ ?_
  · rintro pre x r acc st' kk e ⟨_, k1, rfl, rfl⟩ hkk
    obtain ⟨i, hi, rfl⟩ := item_at (show ((List.range c).map fun (i : Nat) => MV.int (i : Int)) = pre ++ x :: r from e)
    have hic : i < c := by have := List.mem_of_getElem? hi; simpa using this
    decreasing_trivial_pre_omega
    refine pot_ok hm hP hk (by omega) fun p st2 pt k2 hge => ?_
    decreasing_trivial_pre_omega
    refine hR p st2 _ _ pt fun st3 k3 => ?_
    have hl : ([] ++ [MO.lst ((List.range c).map fun (i : Nat) => .int (i : Int))] : Sto).length = 1 := rfl
    have hp1 : 1 ≤ p := Nat.le_trans (by have := k1.le; rw [hl] at this; exact this) hge
    refine hkk _ _ ⟨_, ?_, by simp, rfl⟩
    exact ⟨Nat.le_trans (k1.trans k2).le k3.le, fun b o _ hb => k3.at_ _ _ (by have := (List.getElem?_eq_some_iff.mp hb).1; rw [hl] at this; simp; omega) ((k1.trans k2).at_ _ _ (by simp) hb)⟩
  · rintro acc st' ⟨_, k1, rfl, rfl⟩
    decreasing_trivial_pre_omega
    refine b_all get_new ?_
    rw [show (List.map (fun x => true) (List.map (fun (i : Nat) => MV.int (i : Int)) (List.range c))).all id = true by simp]
    exact q _
end Mi
-- B26
namespace Mi
/-! ### texts of boxes, as they should be -/
structure Spec where
  ins : List (Tx × Nat × List Tx)
  outs : List (Tx × Nat × List Tx)
  steps : List (Tx × List (List Tx))
def lnL (l : Tx × Nat × List Tx) : Line := (l.1, (l.2.1 : Int), l.2.2)
def lnR (k : Tx) (l : Tx × Nat × List Tx) : List Tx := k :: l.1 :: [48 + l.2.1] :: l.2.2
def Spec.stepRows (steps : List (Tx × List (List Tx))) : List (List Tx) := steps.flatMap fun e => [tAT, e.1] :: e.2
def Spec.rows (S : Spec) : List (List Tx) := S.ins.map (lnR tIN) ++ (S.outs.map (lnR tOUT) ++ Spec.stepRows S.steps)
def Spec.text (S : Spec) : Tx := joinBy [10] (S.rows.map (joinBy [32]))
/-- the leads: rows are counted from n -/
def leadsAt : Nat → List (List Tx) → List (Int × Tx)
  | _, [] => []
  | n, s :: ss => ((n : Int) + 1, tgt s) :: leadsAt (n + 1) ss
def leadsOf : Nat → List (Tx × List (List Tx)) → List (Int × Tx)
  | _, [] => []
  | n, e :: r => leadsAt (n + 1) e.2 ++ leadsOf (n + 1 + e.2.length) r
def Spec.rs (S : Spec) : Rs := ⟨S.ins.map lnL, S.outs.map lnL, S.steps, leadsOf (S.ins.length + S.outs.length) S.steps⟩
structure LnOk (l : Tx × Nat × List Tx) : Prop where
  nm : nmB l.1 = true
  wt : 1 ≤ l.2.1 ∧ l.2.1 ≤ 2
  wl : 1 ≤ l.2.2.length ∧ l.2.2.length ≤ 2
  wn : ∀ w ∈ l.2.2, nmB w = true
  wd : l.2.2.Nodup
structure Spec.Good (S : Spec) : Prop where
  i1 : 1 ≤ S.ins.length ∧ S.ins.length ≤ 3
  o1 : 1 ≤ S.outs.length ∧ S.outs.length ≤ 3
  ln : ∀ l ∈ S.ins ++ S.outs, LnOk l
  nd : ((S.ins ++ S.outs).map (·.1)).Nodup
  s1 : 1 ≤ S.steps.length ∧ S.steps.length ≤ 40
  sn : (S.steps.map (·.1)).Nodup
  nm : ∀ e ∈ S.steps, nmB e.1 = true
  fm : ∀ e ∈ S.steps, ∀ s ∈ e.2, Formed ⟨S.ins.map lnL, S.outs.map lnL, [], []⟩ s ∧ tgt s ∈ S.steps.map (·.1)
  sd : ∀ e ∈ S.steps, e.2.Nodup
  sm : (S.steps.map fun e => e.2.length).sum ≤ 80
theorem leadsAt_app : ∀ (n : Nat) (a b : List (List Tx)), leadsAt n (a ++ b) = leadsAt n a ++ leadsAt (n + a.length) b
  | n, [], b => by simp [leadsAt]
  | n, s :: a, b => by
    simp only [List.cons_append, leadsAt, leadsAt_app (n + 1) a b, List.length_cons]
    rw [show n + 1 + a.length = n + (a.length + 1) by omega]
theorem leadsAt_len : ∀ (n : Nat) (a : List (List Tx)), (leadsAt n a).length = a.length
  | _, [] => rfl
  | n, s :: a => by simp [leadsAt, leadsAt_len (n + 1) a]
theorem leadsOf_len : ∀ (n : Nat) (a : List (Tx × List (List Tx))), (leadsOf n a).length = (a.map fun e => e.2.length).sum
  | _, [] => rfl
  | n, e :: a => by simp [leadsOf, leadsAt_len, leadsOf_len _ a]
theorem leadsAt_mem : ∀ {n : Nat} {a : List (List Tx)} {l : Int × Tx}, l ∈ leadsAt n a → ∃ s ∈ a, tgt s = l.2
  | n, [], l, h => by simp [leadsAt] at h
  | n, s :: a, l, h => by
    rcases List.mem_cons.mp h with rfl | z
    · exact ⟨s, by simp, rfl⟩
    · obtain ⟨t, ht, e⟩ := leadsAt_mem z
      exact ⟨t, List.mem_cons_of_mem _ ht, e⟩
theorem leadsOf_mem : ∀ {n : Nat} {a : List (Tx × List (List Tx))} {l : Int × Tx}, l ∈ leadsOf n a → ∃ e ∈ a, ∃ s ∈ e.2, tgt s = l.2
  | n, [], l, h => by simp [leadsOf] at h
  | n, e :: a, l, h => by
    rcases List.mem_append.mp h with z | z
    · obtain ⟨s, hs, e1⟩ := leadsAt_mem z
      exact ⟨e, by simp, s, hs, e1⟩
    · obtain ⟨e', he, s, hs, e1⟩ := leadsOf_mem z
      exact ⟨e', List.mem_cons_of_mem _ he, s, hs, e1⟩
theorem rd_ins : ∀ (ls : List (Tx × Nat × List Tx)) (n : Nat) (pre : List Line), (∀ l ∈ ls, LnOk l) → pre.length + ls.length ≤ 3 → ((pre ++ ls.map lnL).map (·.1)).Nodup →
    Rd n ⟨pre, [], [], []⟩ (ls.map (lnR tIN)) ⟨pre ++ ls.map lnL, [], [], []⟩
  | [], n, pre, _, _, _ => by simpa using Rd.nil
  | l :: ls, n, pre, h, hl, hn => by
    have ho := h l List.mem_cons_self
    have hnew : l.1 ∉ pre.map (·.1) := by
      rw [List.map_append, List.nodup_append] at hn
      intro z
      exact hn.2.2 _ z l.1 (by simp [lnL]) rfl
    refine .cons (R' := ⟨pre ++ [lnL l], [], [], []⟩) ?_ ?_
    · exact Tk.inn (R := ⟨pre, [], [], []⟩) rfl rfl (by simp at hl ⊢; omega) ho.nm (by simpa using hnew) ho.wt ho.wl ho.wn ho.wd
    · have := rd_ins ls (n + 1) (pre ++ [lnL l]) (fun x hx => h x (List.mem_cons_of_mem _ hx)) (by simp at hl ⊢; omega) (by simpa using hn)
      simpa using this
theorem rd_outs : ∀ (ls : List (Tx × Nat × List Tx)) (n : Nat) (ins pre : List Line), ins ≠ [] → (∀ l ∈ ls, LnOk l) → pre.length + ls.length ≤ 3 → ((ins ++ (pre ++ ls.map lnL)).map (·.1)).Nodup →
    Rd n ⟨ins, pre, [], []⟩ (ls.map (lnR tOUT)) ⟨ins, pre ++ ls.map lnL, [], []⟩
  | [], n, ins, pre, _, _, _, _ => by simpa using Rd.nil
  | l :: ls, n, ins, pre, hi, h, hl, hn => by
    have ho := h l List.mem_cons_self
    have hnew : l.1 ∉ (ins ++ pre).map (·.1) := by
      rw [← List.append_assoc, List.map_append, List.nodup_append] at hn
      intro z
      exact hn.2.2 _ z l.1 (by simp [lnL]) rfl
    refine .cons (R' := ⟨ins, pre ++ [lnL l], [], []⟩) ?_ ?_
    · exact Tk.out (R := ⟨ins, pre, [], []⟩) rfl hi (by simp at hl ⊢; omega) ho.nm hnew ho.wt ho.wl ho.wn ho.wd
    · have := rd_outs ls (n + 1) ins (pre ++ [lnL l]) hi (fun x hx => h x (List.mem_cons_of_mem _ hx)) (by simp at hl ⊢; omega) (by simpa using hn)
      simpa using this
theorem Formed.ok {R : Rs} {s : List Tx} (h : Formed R s) (ok : ∀ l ∈ R.ins ++ R.outs, okLine l) : ∀ w ∈ s, okTx w := by
  have lit : ∀ t : Tx, t.all (fun c => decide (c < 1114112)) = true → okTx t := fun t ht c hc => by
    rw [List.all_eq_true] at ht; simpa using ht c hc
  cases h with
  | turn a =>
    intro w hw
    simp at hw
    rcases hw with rfl | rfl
    · exact lit _ rfl
    · exact nm_ok a
  | take a b c =>
    intro w hw
    simp at hw
    obtain ⟨o1, o2⟩ := ok _ (List.mem_append_left _ b)
    rcases hw with rfl | rfl | rfl | rfl
    · exact lit _ rfl
    · exact o1
    · exact o2 _ c
    · exact nm_ok a
  | put a b c =>
    intro w hw
    simp at hw
    obtain ⟨o1, o2⟩ := ok _ (List.mem_append_right _ b)
    rcases hw with rfl | rfl | rfl | rfl
    · exact lit _ rfl
    · exact o1
    · exact o2 _ c
    · exact nm_ok a
/-- the steps of one place -/
theorem rd_at {ins outs : List Line} (ok : ∀ l ∈ ins ++ outs, okLine l) {ss : List (Tx × List (List Tx))} {p : Tx} (hk : ((ss ++ [(p, ([] : List (List Tx)))]).map (·.1)).Nodup) : ∀ (more done : List (List Tx)) (n : Nat) (ld : List (Int × Tx)), (∀ s ∈ done ++ more, Formed ⟨ins, outs, [], []⟩ s) → (done ++ more).Nodup → ld.length + more.length ≤ 80 → done.length + more.length ≤ 80 →
    Rd n ⟨ins, outs, ss ++ [(p, done)], ld⟩ more ⟨ins, outs, ss ++ [(p, done ++ more)], ld ++ leadsAt n more⟩
  | [], done, n, ld, _, _, _, _ => by simpa [leadsAt] using Rd.nil
  | s :: more, done, n, ld, hf, hn, h1, h2 => by
    refine .cons (R' := ⟨ins, outs, ss ++ [(p, done ++ [s])], ld ++ [((n : Int) + 1, tgt s)]⟩) ?_ ?_
    · refine Tk.step (R := ⟨ins, outs, ss ++ [(p, done)], ld⟩) rfl ?_ ((hf s (by simp)).same rfl rfl) ?_ ?_ ?_ ?_
      · unfold keysR
        simpa using hk
      · intro t ht w hw
        refine (hf t ?_).ok ok w hw
        rcases List.mem_cons.mp ht with rfl | z
        · simp
        · simp [z]
      · intro z
        rw [List.nodup_append] at hn
        exact hn.2.2 s z s (by simp) rfl
      · simp at h1 ⊢; omega
      · simp at h2; omega
    · have := rd_at ok hk more (done ++ [s]) (n + 1) (ld ++ [((n : Int) + 1, tgt s)]) (by simpa using hf) (by simpa using hn) (by simp at h1 ⊢; omega) (by simp at h2 ⊢; omega)
      simpa [leadsAt] using this
theorem rd_steps {ins outs : List Line} (ok : ∀ l ∈ ins ++ outs, okLine l) (ho : outs ≠ []) : ∀ (more ss : List (Tx × List (List Tx))) (n : Nat) (ld : List (Int × Tx)), ((ss ++ more).map (·.1)).Nodup → (∀ e ∈ more, nmB e.1 = true) → (∀ e ∈ more, ∀ s ∈ e.2, Formed ⟨ins, outs, [], []⟩ s) → (∀ e ∈ more, e.2.Nodup) →
    ss.length + more.length ≤ 40 → ld.length + (more.map fun e => e.2.length).sum ≤ 80 →
    Rd n ⟨ins, outs, ss, ld⟩ (Spec.stepRows more) ⟨ins, outs, ss ++ more, ld ++ leadsOf n more⟩
  | [], ss, n, ld, _, _, _, _, _, _ => by simpa [Spec.stepRows, leadsOf] using Rd.nil
  | e :: more, ss, n, ld, hn, nm, fm, sd, h1, h2 => by
    have hk : ((ss ++ [(e.1, ([] : List (List Tx)))]).map (·.1)).Nodup := by
      have : ((ss ++ [e]) ++ more).map (·.1) = (ss ++ [(e.1, ([] : List (List Tx)))]).map (·.1) ++ more.map (·.1) := by simp
      rw [show ss ++ e :: more = (ss ++ [e]) ++ more by simp, this, List.nodup_append] at hn
      exact hn.1
    have hnew : e.1 ∉ ss.map (·.1) := by
      rw [List.map_append, List.nodup_append] at hk
      intro z
      exact hk.2.2 _ z e.1 (by simp) rfl
    show Rd n _ ([tAT, e.1] :: (e.2 ++ Spec.stepRows more)) _
    refine .cons (R' := ⟨ins, outs, ss ++ [(e.1, [])], ld⟩) (Tk.place (R := ⟨ins, outs, ss, ld⟩) ho (nm e List.mem_cons_self) hnew (by simp at h1 ⊢; omega)) ?_
    simp only [List.map_cons, List.sum_cons] at h2
    refine (rd_at ok hk e.2 [] (n + 1) ld (by simpa using fm e List.mem_cons_self) (by simpa using sd e List.mem_cons_self) (by omega) (by simp; omega)).app ?_
    have := rd_steps ok ho more (ss ++ [e]) (n + 1 + e.2.length) (ld ++ leadsAt (n + 1) e.2) (by simpa using hn) (fun x hx => nm x (List.mem_cons_of_mem _ hx)) (fun x hx => fm x (List.mem_cons_of_mem _ hx)) (fun x hx => sd x (List.mem_cons_of_mem _ hx)) (by simp at h1 ⊢; omega) (by simp [leadsAt_len]; omega)
    simpa [leadsOf] using this
/-- signs of words -/
def plain (w : Tx) : Prop := 10 ∉ w ∧ 32 ∉ w ∧ w.length ≤ 8
theorem nm_plain {w : Tx} (h : nmB w = true) : plain w := by
  have hl := nm_len h
  unfold nmB at h
  simp only [Bool.and_eq_true, decide_eq_true_eq, List.all_eq_true] at h
  refine ⟨fun z => ?_, fun z => ?_, hl.2⟩
  · have := h.2 10 z; simp [lowers] at this
  · have := h.2 32 z; simp [lowers] at this
theorem joinBy_mem {s : Tx} {c : Nat} : ∀ {ws : List Tx}, c ∈ joinBy s ws → c ∈ s ∨ ∃ w ∈ ws, c ∈ w
  | [], h => by simp [joinBy] at h
  | [w], h => .inr ⟨w, by simp, h⟩
  | w :: v :: ws, h => by
    rw [joinBy] at h
    · simp only [List.mem_append] at h
      rcases h with (h | h) | h
      · exact .inr ⟨w, by simp, h⟩
      · exact .inl h
      · rcases joinBy_mem h with z | ⟨x, hx, z⟩
        · exact .inl z
        · exact .inr ⟨x, List.mem_cons_of_mem _ hx, z⟩
    · simp
theorem joinBy_len {s : Tx} {m : Nat} : ∀ {ws : List Tx}, (∀ w ∈ ws, w.length ≤ m) → (joinBy s ws).length ≤ ws.length * (m + s.length)
  | [], _ => by simp [joinBy]
  | [w], h => by have := h w (by simp); simp [joinBy]; omega
  | w :: v :: ws, h => by
    rw [joinBy]
    · have h1 := h w (by simp)
      have h2 := joinBy_len (s := s) (ws := v :: ws) fun x hx => h x (List.mem_cons_of_mem _ hx)
      simp only [List.length_append, List.length_cons] at h2 ⊢
      rw [Nat.succ_mul]
      omega
    · simp
theorem rows_split {rows : List (List Tx)} (hne : rows ≠ []) (h : ∀ r ∈ rows, r ≠ [] ∧ r.length ≤ 5 ∧ ∀ w ∈ r, plain w) :
    (splitOn 10 (joinBy [10] (rows.map (joinBy [32])))).map (splitOn 32) = rows ∧ (joinBy [10] (rows.map (joinBy [32]))).length ≤ rows.length * 46 := by
  have h1 : ∀ r ∈ rows.map (joinBy [32]), 10 ∉ r := fun r hr => by
    obtain ⟨x, hx, rfl⟩ := List.mem_map.mp hr
    intro z
    rcases joinBy_mem z with z | ⟨w, hw, z⟩
    · simp at z
    · exact ((h x hx).2.2 w hw).1 z
  refine ⟨?_, ?_⟩
  · rw [split_join _ (by simpa using hne) h1, List.map_map]
    conv => rhs; rw [← List.map_id rows]
    refine List.map_congr_left fun r hr => ?_
    simp only [Function.comp_apply, id]
    exact split_join r (h r hr).1 fun w hw => ((h r hr).2.2 w hw).2.1
  · have := joinBy_len (s := [10]) (m := 45) (ws := rows.map (joinBy [32])) fun r hr => by
      obtain ⟨x, hx, rfl⟩ := List.mem_map.mp hr
      have a := joinBy_len (s := [32]) (m := 8) (ws := x) fun w hw => ((h x hx).2.2 w hw).2.2
      have b := (h x hx).2.1
      have : x.length * (8 + [32].length) ≤ 5 * 9 := Nat.mul_le_mul b (by simp)
      omega
    simpa using this
theorem lnR_ok {k : Tx} (hk : plain k) {l : Tx × Nat × List Tx} (h : LnOk l) : lnR k l ≠ [] ∧ (lnR k l).length ≤ 5 ∧ ∀ w ∈ lnR k l, plain w := by
  refine ⟨by simp [lnR], by have := h.wl; simp [lnR]; omega, fun w hw => ?_⟩
  simp only [lnR, List.mem_cons] at hw
  rcases hw with rfl | rfl | rfl | hw
  · exact hk
  · exact nm_plain h.nm
  · have := h.wt
    exact ⟨by simp; omega, by simp; omega, by simp⟩
  · exact nm_plain (h.wn w hw)
theorem plain_of {w : Tx} (h : (decide (10 ∉ w) && decide (32 ∉ w) && decide (w.length ≤ 8)) = true) : plain w := by
  simp only [Bool.and_eq_true, decide_eq_true_eq] at h
  exact ⟨h.1.1, h.1.2, h.2⟩
theorem Spec.Good.row {S : Spec} (g : S.Good) : ∀ r ∈ S.rows, r ≠ [] ∧ r.length ≤ 5 ∧ ∀ w ∈ r, plain w := by
  intro r hr
  simp only [Spec.rows, List.mem_append] at hr
  rcases hr with hr | hr | hr
  · obtain ⟨l, hl, rfl⟩ := List.mem_map.mp hr
    exact lnR_ok (plain_of rfl) (g.ln l (List.mem_append_left _ hl))
  · obtain ⟨l, hl, rfl⟩ := List.mem_map.mp hr
    exact lnR_ok (plain_of rfl) (g.ln l (List.mem_append_right _ hl))
  · unfold Spec.stepRows at hr
    obtain ⟨e, he, hr⟩ := List.mem_flatMap.mp hr
    rcases List.mem_cons.mp hr with rfl | hs
    · refine ⟨by simp, by simp, fun w hw => ?_⟩
      simp at hw
      rcases hw with rfl | rfl
      · exact plain_of rfl
      · exact nm_plain (g.nm e he)
    · have f := (g.fm e he r hs).1
      have pl : ∀ {ls : List (Tx × Nat × List Tx)} {l x : Tx} {n : Int} {ws : List Tx}, (∀ y ∈ ls, LnOk y) → (l, n, ws) ∈ ls.map lnL → x ∈ ws → plain l ∧ plain x := fun {ls l x n ws} h1 h2 h3 => by
        obtain ⟨y, hy, e⟩ := List.mem_map.mp h2
        obtain ⟨y1, y2, y3⟩ := y
        simp only [lnL, Prod.mk.injEq] at e
        obtain ⟨rfl, rfl, rfl⟩ := e
        have o := h1 _ hy
        exact ⟨nm_plain o.nm, nm_plain (o.wn x h3)⟩
      cases f with
      | turn a =>
        refine ⟨by simp, by simp, fun w hw => ?_⟩
        simp at hw
        rcases hw with rfl | rfl
        · exact plain_of rfl
        · exact nm_plain a
      | take a b c =>
        refine ⟨by simp, by simp, fun w hw => ?_⟩
        obtain ⟨p1, p2⟩ := pl (fun y hy => g.ln y (List.mem_append_left _ hy)) b c
        simp at hw
        rcases hw with rfl | rfl | rfl | rfl
        · exact plain_of rfl
        · exact p1
        · exact p2
        · exact nm_plain a
      | put a b c =>
        refine ⟨by simp, by simp, fun w hw => ?_⟩
        obtain ⟨p1, p2⟩ := pl (fun y hy => g.ln y (List.mem_append_right _ hy)) b c
        simp at hw
        rcases hw with rfl | rfl | rfl | rfl
        · exact plain_of rfl
        · exact p1
        · exact p2
        · exact nm_plain a
theorem stepRows_len : ∀ l : List (Tx × List (List Tx)), (Spec.stepRows l).length = l.length + (l.map fun e => e.2.length).sum
  | [] => rfl
  | e :: l => by
    have := stepRows_len l
    unfold Spec.stepRows at this ⊢
    simp only [List.flatMap_cons, List.length_append, List.length_cons, List.map_cons, List.sum_cons] at this ⊢
    omega
/-- a good text is read to what it tells -/
theorem Spec.Good.reads {S : Spec} (g : S.Good) : Reads S.text S.rs := by
  have hne : S.rows ≠ [] := by
    have b := g.i1
    intro z
    have a := congrArg List.length z
    simp [Spec.rows] at a
    rw [a.1] at b
    simp at b
  obtain ⟨h1, h2⟩ := rows_split hne g.row
  have hrl : S.rows.length ≤ 126 := by
    have a := g.i1
    have b := g.o1
    have c := g.s1
    have d := g.sm
    have e := stepRows_len S.steps
    simp only [Spec.rows, List.length_append, List.length_map, e]
    omega
  refine ⟨?_, ?_, ?_, ?_⟩
  · show Rd 0 _ ((splitOn 10 (joinBy [10] (S.rows.map (joinBy [32])))).map (splitOn 32)) _
    rw [h1]
    have ok : ∀ l ∈ S.ins.map lnL ++ S.outs.map lnL, okLine l := by
      intro l hl
      rw [← List.map_append] at hl
      obtain ⟨y, hy, rfl⟩ := List.mem_map.mp hl
      have o := g.ln y hy
      exact ⟨nm_ok o.nm, fun w hw => nm_ok (o.wn w hw)⟩
    have hnd : ((S.ins.map lnL ++ S.outs.map lnL).map (·.1)).Nodup := by
      rw [← List.map_append, List.map_map]
      exact g.nd
    refine (rd_ins S.ins 0 [] (fun l hl => g.ln l (List.mem_append_left _ hl)) (by simpa using g.i1.2) (by rw [List.nil_append]; rw [List.map_append, List.nodup_append] at hnd; exact hnd.1)).app ?_
    have hi : S.ins.map lnL ≠ [] := by
      intro z
      have b := g.i1
      rw [List.map_eq_nil_iff.mp z] at b
      simp at b
    have ho : S.outs.map lnL ≠ [] := by
      intro z
      have b := g.o1
      rw [List.map_eq_nil_iff.mp z] at b
      simp at b
    refine (rd_outs S.outs _ (S.ins.map lnL) [] hi (fun l hl => g.ln l (List.mem_append_right _ hl)) (by simpa using g.o1.2) (by simpa using hnd)).app ?_
    have := rd_steps ok ho S.steps [] (0 + S.ins.length + S.outs.length) [] (by simpa using g.sn) g.nm (fun e he s hs => (g.fm e he s hs).1) g.sd (by simpa using g.s1.2) (by simpa using g.sm)
    simpa [Spec.rs] using this
  · intro z
    have := g.s1
    have z : S.steps = [] := z
    rw [z] at this
    simp at this
  · intro l hl
    obtain ⟨e, he, s, hs, e1⟩ := leadsOf_mem hl
    rw [← e1]
    exact (g.fm e he s hs).2
  · show (joinBy [10] (S.rows.map (joinBy [32]))).length ≤ 90000
    omega
def Spec.box (S : Spec) : BoxD := S.rs.box S.text
end Mi
-- B27
namespace Mi
/-! ### k08: the boxes by hand -/
/-- closed walks come to nothing where they stay at one rank, on which a number goes with the load -/
theorem even_of {D : BoxD} {f : Tx} (rk : Tx → Nat) (ph : Tx → Int) (h : ∀ p, Reach D f p → ∀ s ∈ D.at_ p, rk p ≤ rk (tgt s) ∧ (rk p = rk (tgt s) → ph (tgt s) = ph p + D.gain s)) :
    ∀ p, Reach D f p → ∀ ws, Walk D p ws p → D.load ws = 0 := by
  have up : ∀ {ws : List (Tx × List Tx)} {p q : Tx}, Reach D f p → Walk D p ws q → rk p ≤ rk q ∧ (rk p = rk q → ph q = ph p + D.load ws) := by
    intro ws
    induction ws with
    | nil => intro p q _ hw; cases hw; exact ⟨Nat.le_refl _, fun _ => by simp [BoxD.load]⟩
    | cons r ws ih =>
      intro p q hp hw
      cases hw with
      | @cons _ _ s _ hs ht =>
        obtain ⟨a1, a2⟩ := h p hp s hs
        obtain ⟨w0, hw0⟩ := hp
        obtain ⟨b1, b2⟩ := ih ⟨_, hw0.snoc hs⟩ ht
        refine ⟨by omega, fun e => ?_⟩
        have := a2 (by omega)
        have := b2 (by omega)
        simp only [BoxD.load]
        omega
  intro p hp ws hw
  have := (up hp hw).2 rfl
  omega
def tT : Tx := [116]
def pl (i : Nat) : Tx := [112, 97 + i / 26, 97 + i % 26]
def plIx : Tx → Nat
  | [112, x, y] => (x - 97) * 26 + (y - 97)
  | _ => 0
theorem plIx_pl (i : Nat) : plIx (pl i) = i := by
  show (97 + i / 26 - 97) * 26 + (97 + i % 26 - 97) = i
  have := Nat.div_add_mod i 26
  omega
theorem pl_inj {i j : Nat} (h : pl i = pl j) : i = j := by rw [← plIx_pl i, h, plIx_pl]
theorem pl_nm {i : Nat} (h : i < 600) : nmB (pl i) = true := by
  have h1 : i / 26 < 24 := by omega
  have h2 : i % 26 < 26 := Nat.mod_lt _ (by decide)
  have h3 : ∀ x, x < 26 → lowers.contains (97 + x) = true := by decide
  show (true && true && (lowers.contains 112 && (lowers.contains (97 + i / 26) && (lowers.contains (97 + i % 26) && true)))) = true
  rw [h3 (i / 26) (by omega), h3 (i % 26) h2]
  rfl
def stp (a b : Tx) (ws : List Bool) (i : Nat) : List (List Tx) := match ws[i]? with
  | some true => [[tTAKE, a, tT, pl (i + 1)]]
  | some false => [[tPUT, b, tT, pl (i + 1)]]
  | none => []
def spA (a b : Tx) (w : Nat) (ws : List Bool) : Spec := ⟨[(a, w, [tT])], [(b, w, [tT])], (List.range (ws.length + 1)).map fun i => (pl i, stp a b ws i)⟩
theorem stp_len (a b : Tx) (ws : List Bool) (i : Nat) : (stp a b ws i).length ≤ 1 ∧ (stp a b ws ws.length).length = 0 := by
  unfold stp
  refine ⟨?_, by simp⟩
  split <;> simp
theorem nodup_pl (l : List Nat) (h : l.Nodup) : (l.map pl).Nodup := by
  unfold List.Nodup
  rw [List.pairwise_map]
  exact List.Pairwise.imp (fun h e => h (pl_inj e)) h
theorem sum_le_len {α : Type} (f : α → Nat) (c : Nat) : ∀ l : List α, (∀ x ∈ l, f x ≤ c) → (l.map f).sum ≤ c * l.length
  | [], _ => by simp
  | x :: l, h => by
    have h1 := h x List.mem_cons_self
    have h2 := sum_le_len f c l fun y hy => h y (List.mem_cons_of_mem _ hy)
    simp only [List.map_cons, List.sum_cons, List.length_cons, Nat.mul_add, Nat.mul_one]
    omega
theorem mem_stp {a b : Tx} {ws : List Bool} {i : Nat} {s : List Tx} (h : s ∈ stp a b ws i) : i < ws.length ∧ (s = [tTAKE, a, tT, pl (i + 1)] ∧ ws[i]? = some true ∨ s = [tPUT, b, tT, pl (i + 1)] ∧ ws[i]? = some false) := by
  unfold stp at h
  split at h
  · rename_i e
    simp at h
    exact ⟨(List.getElem?_eq_some_iff.mp e).1, .inl ⟨h, e⟩⟩
  · rename_i e
    simp at h
    exact ⟨(List.getElem?_eq_some_iff.mp e).1, .inr ⟨h, e⟩⟩
  · simp at h
section
variable {a b : Tx} {w : Nat} {ws : List Bool} (ha : nmB a = true) (hb : nmB b = true) (hab : a ≠ b) (hw : 1 ≤ w ∧ w ≤ 2) (hl : ws.length ≤ 39)
include ha hb hab hw hl
theorem spA_good : (spA a b w ws).Good := by
  refine ⟨by simp [spA], by simp [spA], ?_, by simpa [spA] using hab, by simp [spA]; omega, ?_, ?_, ?_, ?_, ?_⟩
  · intro l hl
    simp [spA] at hl
    rcases hl with rfl | rfl
    · exact ⟨ha, hw, by simp, by simp [tT]; decide, by simp⟩
    · exact ⟨hb, hw, by simp, by simp [tT]; decide, by simp⟩
  · show (((List.range (ws.length + 1)).map fun i => (pl i, stp a b ws i)).map (·.1)).Nodup
    rw [List.map_map]
    exact nodup_pl _ List.nodup_range
  · intro e he
    obtain ⟨i, hi, rfl⟩ := List.mem_map.mp he
    rw [List.mem_range] at hi
    exact pl_nm (by omega)
  · intro e he s hs
    obtain ⟨i, hi, rfl⟩ := List.mem_map.mp he
    obtain ⟨h1, h2⟩ := mem_stp hs
    have ht : tgt s = pl (i + 1) := by rcases h2 with ⟨rfl, _⟩ | ⟨rfl, _⟩ <;> rfl
    refine ⟨?_, ?_⟩
    · rcases h2 with ⟨rfl, _⟩ | ⟨rfl, _⟩
      · exact .take (pl_nm (by omega)) (List.mem_singleton.mpr rfl) (List.mem_singleton.mpr rfl)
      · exact .put (pl_nm (by omega)) (List.mem_singleton.mpr rfl) (List.mem_singleton.mpr rfl)
    · rw [ht]
      refine List.mem_map.mpr ⟨(pl (i + 1), stp a b ws (i + 1)), ?_, rfl⟩
      exact List.mem_map.mpr ⟨i + 1, by rw [List.mem_range]; omega, rfl⟩
  · intro e he
    obtain ⟨i, hi, rfl⟩ := List.mem_map.mp he
    have h := (stp_len a b ws i).1
    show (stp a b ws i).Nodup
    generalize stp a b ws i = l at h
    match l, h with
    | [], _ => simp
    | [_], _ => simp
  · show (((List.range (ws.length + 1)).map fun i => (pl i, stp a b ws i)).map fun e => e.2.length).sum ≤ 80
    rw [List.map_map]
    have := sum_le_len ((fun e => e.2.length) ∘ fun i => (pl i, stp a b ws i)) 1 (List.range (ws.length + 1)) fun i _ => (stp_len a b ws i).1
    simp at this
    omega
theorem spA_at {i : Nat} (hi : i ≤ ws.length) : (spA a b w ws).box.at_ (pl i) = stp a b ws i :=
  at_of (spA_good ha hb hab hw hl).reads.wf.nd (e := (pl i, stp a b ws i)) (List.mem_map.mpr ⟨i, by rw [List.mem_range]; omega, rfl⟩)
theorem spA_gain {i : Nat} {s : List Tx} (hs : s ∈ stp a b ws i) : (spA a b w ws).box.gain s = if ws[i]? = some true then (w : Int) else -(w : Int) := by
  obtain ⟨h1, h2⟩ := mem_stp hs
  rcases h2 with ⟨rfl, e⟩ | ⟨rfl, e⟩
  · rw [e, if_pos rfl]
    show (((spA a b w ws).box.wts).lookup a).getD 0 = _
    simp [spA, Spec.box, Spec.rs, Rs.box, BoxD.wts, lnL]
  · rw [e, if_neg (by simp)]
    show -(((spA a b w ws).box.wts).lookup b).getD 0 = _
    have : (b == a) = false := by simp [Ne.symm hab]
    simp [spA, Spec.box, Spec.rs, Rs.box, BoxD.wts, lnL, List.lookup_cons, this]
/-- what is due at a place -/
def dueAt (w : Nat) (ws : List Bool) (i : Nat) : Int := ((ws.take i).map fun x => if x then (w : Int) else -(w : Int)).sum
omit ha hb hab hw hl in
theorem due_succ {i : Nat} {x : Bool} (h : ws[i]? = some x) : dueAt w ws (i + 1) = dueAt w ws i + if x then (w : Int) else -(w : Int) := by
  unfold dueAt
  rw [take_succ_at h, List.map_append, List.sum_append]
  simp
theorem spA_walks : ∀ (n : Nat) {wk : List (Tx × List Tx)} {p : Tx}, wk.length = n → Walk (spA a b w ws).box (pl 0) wk p → ∃ i, i ≤ ws.length ∧ p = pl i ∧ (spA a b w ws).box.load wk = dueAt w ws i := by
  intro n
  induction n with
  | zero =>
    intro wk p hn h
    have : wk = [] := by simpa using hn
    subst this
    cases h
    exact ⟨0, Nat.zero_le _, rfl, by simp [BoxD.load, dueAt]⟩
  | succ n ih =>
    intro wk p hn h
    rcases h.last with ⟨rfl, rfl⟩ | ⟨r, c, s, rfl, h1, hs, rfl⟩
    · simp at hn
    · obtain ⟨i, hi, rfl, e⟩ := ih (by simpa using hn) h1
      rw [spA_at ha hb hab hw hl hi] at hs
      obtain ⟨g1, g2⟩ := mem_stp hs
      have hg := spA_gain ha hb hab hw hl hs
      refine ⟨i + 1, g1, ?_, ?_⟩
      · rcases g2 with ⟨rfl, _⟩ | ⟨rfl, _⟩ <;> rfl
      · rw [load_app, e]
        simp only [BoxD.load, hg]
        rcases g2 with ⟨rfl, z⟩ | ⟨rfl, z⟩
        · rw [due_succ z, z]; simp
        · rw [due_succ z, z]; simp
theorem spA_walk : ∀ (i : Nat), i ≤ ws.length → ∃ wk, Walk (spA a b w ws).box (pl 0) wk (pl i) ∧ (spA a b w ws).box.load wk = dueAt w ws i
  | 0, _ => ⟨[], .nil, by simp [BoxD.load, dueAt]⟩
  | i + 1, h => by
    obtain ⟨wk, h1, h2⟩ := spA_walk i (by omega)
    obtain ⟨x, hx⟩ : ∃ x, ws[i]? = some x := ⟨_, List.getElem?_eq_getElem (by omega)⟩
    obtain ⟨s, hs, ht⟩ : ∃ s, s ∈ stp a b ws i ∧ tgt s = pl (i + 1) := by
      unfold stp
      rw [hx]
      cases x
      · exact ⟨_, List.mem_singleton.mpr rfl, rfl⟩
      · exact ⟨_, List.mem_singleton.mpr rfl, rfl⟩
    have hs2 := hs
    rw [← spA_at ha hb hab hw hl (show i ≤ ws.length by omega)] at hs2
    refine ⟨wk ++ [(pl i, s)], ht ▸ h1.snoc hs2, ?_⟩
    rw [load_app, h2]
    simp only [BoxD.load, spA_gain ha hb hab hw hl hs, due_succ hx, hx]
    cases x <;> simp
theorem spA_even : Even (spA a b w ws).box (fun _ => 0) 0 := by
  have hd : (spA a b w ws).box.places.headD [] = pl 0 := by
    show (((List.range (ws.length + 1)).map fun i => (pl i, stp a b ws i)).map (·.1)).headD [] = _
    rw [List.map_map, List.range_succ_eq_map]
    rfl
  refine ⟨⟨?_, fun _ => Nat.le_refl _, by decide⟩, ?_⟩
  · intro p s hs h2
    obtain ⟨e, he, rfl, hse⟩ := mem_of_at hs
    obtain ⟨i, hi, rfl⟩ := List.mem_map.mp he
    obtain ⟨_, h⟩ := mem_stp hse
    rcases h with ⟨rfl, _⟩ | ⟨rfl, _⟩ <;> simp at h2
  · rw [hd]
    refine even_of plIx (fun _ => 0) ?_
    rintro p ⟨wk, hwk⟩ s hs
    obtain ⟨i, hi, rfl, _⟩ := spA_walks ha hb hab hw hl _ rfl hwk
    rw [spA_at ha hb hab hw hl hi] at hs
    obtain ⟨_, h⟩ := mem_stp hs
    have ht : tgt s = pl (i + 1) := by rcases h with ⟨rfl, _⟩ | ⟨rfl, _⟩ <;> rfl
    rw [ht, plIx_pl, plIx_pl]
    exact ⟨by omega, fun e => by omega⟩
theorem spA_lohi {i : Nat} (hi : i ≤ ws.length) : LoHi (spA a b w ws).box (pl 0) (pl i) (dueAt w ws i) (dueAt w ws i) := by
  have h := spA_walk ha hb hab hw hl i hi
  refine ⟨h, h, fun wk hk => ?_⟩
  obtain ⟨j, hj, e, e2⟩ := spA_walks ha hb hab hw hl _ rfl hk
  have := pl_inj e
  subst this
  omega
end
/-- rows are what they must be -/
theorem rows_eq {D : BoxD} {f : Tx} {rows due : List Lrow} (h : LoadsOf D f rows) (g : Tx → Bool) (hg : ∀ p ∈ D.places, g p = true ↔ Reach D f p) (hk : due.map (·.1) = D.places.filter g) (hd : ∀ r ∈ due, LoHi D f r.1 r.2.1 r.2.2) : rows = due := by
  obtain ⟨g2, h1, h2⟩ := h.ky
  have e : rows.map (·.1) = due.map (·.1) := by
    rw [h2, hk]
    refine List.filter_congr fun p hp => ?_
    have a := h1 p
    have b := hg p hp
    cases x : g p <;> cases y : g2 p <;> simp_all
  refine List.ext_getElem? fun i => ?_
  have ei : (rows.map (·.1))[i]? = (due.map (·.1))[i]? := by rw [e]
  rw [List.getElem?_map, List.getElem?_map] at ei
  cases hr : rows[i]? with
  | none =>
    rw [hr] at ei
    cases hd2 : due[i]? with
    | none => rfl
    | some y => rw [hd2] at ei; simp at ei
  | some x =>
    rw [hr] at ei
    cases hd2 : due[i]? with
    | none => rw [hd2] at ei; simp at ei
    | some y =>
      rw [hd2] at ei
      simp at ei
      obtain ⟨x1, x2, x3⟩ := x
      obtain ⟨y1, y2, y3⟩ := y
      simp only at ei
      subst ei
      have a := h.lh _ (List.mem_of_getElem? hr)
      have b := hd _ (List.mem_of_getElem? hd2)
      obtain ⟨rfl, rfl⟩ := a.uniq b
      rfl
def dueRows (w : Nat) (ws : List Bool) : List Lrow := (List.range (ws.length + 1)).map fun i => (pl i, dueAt w ws i, dueAt w ws i)
theorem spA_rows {a b : Tx} {w : Nat} {ws : List Bool} (ha : nmB a = true) (hb : nmB b = true) (hab : a ≠ b) (hw : 1 ≤ w ∧ w ≤ 2) (hl : ws.length ≤ 39) {rows : List Lrow} (h : LoadsOf (spA a b w ws).box (pl 0) rows) : rows = dueRows w ws := by
  have hp : (spA a b w ws).box.places = (List.range (ws.length + 1)).map pl := by
    show ((List.range (ws.length + 1)).map fun i => (pl i, stp a b ws i)).map (·.1) = _
    rw [List.map_map]; rfl
  refine rows_eq h (fun _ => true) ?_ ?_ ?_
  · intro p hp2
    rw [hp] at hp2
    obtain ⟨i, hi, rfl⟩ := List.mem_map.mp hp2
    rw [List.mem_range] at hi
    obtain ⟨wk, h1, _⟩ := spA_walk ha hb hab hw hl i (by omega)
    simp only [true_iff]
    exact ⟨wk, h1⟩
  · rw [hp, List.filter_eq_self.mpr (by simp)]
    unfold dueRows
    rw [List.map_map]; rfl
  · intro r hr
    obtain ⟨i, hi, rfl⟩ := List.mem_map.mp hr
    rw [List.mem_range] at hi
    exact spA_lohi ha hb hab hw hl (by omega)
end Mi
-- B28
namespace Mi
/-! ### k08: two ways to one place -/
def sW : Tx := [115]
def uW : Tx := [117]
def vW : Tx := [118]
def farW : Tx := [102, 97, 114]
def wst (a : Tx) (m i : Nat) : List Tx := if i < m then [tTAKE, a, tT, pl (i + 1)] else [tTURN, uW]
def spW (a b : Tx) (m : Nat) : Spec := ⟨[(a, 1, [tT])], [(b, 1, [tT])], (sW, [[tTURN, uW], [tTAKE, a, tT, pl 1]]) :: (((List.range m).map fun j => (pl (j + 1), [wst a m (j + 1)])) ++ [(uW, [[tTAKE, a, tT, vW]]), (vW, [[tPUT, b, tT, uW]]), (farW, [[tTAKE, a, tT, farW]])])⟩
theorem pl_len (i : Nat) : (pl i).length = 3 := rfl
theorem pl_hd (i : Nat) : (pl i).head? = some 112 := rfl
theorem ne_pl {x : Tx} (h : x.head? ≠ some 112) (i : Nat) : x ≠ pl i := fun e => h (by rw [e]; rfl)
theorem spW_places (a b : Tx) (m : Nat) : (spW a b m).steps.map (·.1) = sW :: (((List.range m).map fun j => pl (j + 1)) ++ [uW, vW, farW]) := by
  simp [spW, List.map_map, Function.comp_def]
theorem spW_nd (a b : Tx) (m : Nat) : ((spW a b m).steps.map (·.1)).Nodup := by
  rw [spW_places]
  have h : ((List.range m).map fun j => pl (j + 1)).Nodup := by
    unfold List.Nodup
    rw [List.pairwise_map]
    exact List.Pairwise.imp (fun h e => h (by have := pl_inj e; omega)) List.nodup_range
  refine List.nodup_cons.mpr ⟨?_, List.nodup_append.mpr ⟨h, by decide, ?_⟩⟩
  · rw [List.mem_append]
    rintro (z | z)
    · obtain ⟨j, _, e⟩ := List.mem_map.mp z
      exact ne_pl (x := sW) (by decide) _ e.symm
    · revert z; decide
  · rintro x hx y hy rfl
    obtain ⟨j, _, rfl⟩ := List.mem_map.mp hx
    simp only [List.mem_cons, List.not_mem_nil, or_false] at hy
    rcases hy with e | e | e
    · exact ne_pl (x := uW) (by decide) _ e.symm
    · exact ne_pl (x := vW) (by decide) _ e.symm
    · exact ne_pl (x := farW) (by decide) _ e.symm
section
variable {a b : Tx} {m : Nat} (ha : nmB a = true) (hb : nmB b = true) (hab : a ≠ b) (hm : 1 ≤ m ∧ m ≤ 9)
include ha hb hab hm
theorem spW_good : (spW a b m).Good := by
  have tin : ∀ p, nmB p = true → Formed ⟨[lnL (a, 1, [tT])], [lnL (b, 1, [tT])], [], []⟩ [tTAKE, a, tT, p] := fun p h => .take h (List.mem_singleton.mpr rfl) (List.mem_singleton.mpr rfl)
  have tpu : ∀ p, nmB p = true → Formed ⟨[lnL (a, 1, [tT])], [lnL (b, 1, [tT])], [], []⟩ [tPUT, b, tT, p] := fun p h => .put h (List.mem_singleton.mpr rfl) (List.mem_singleton.mpr rfl)
  have ttu : ∀ p, nmB p = true → Formed ⟨[lnL (a, 1, [tT])], [lnL (b, 1, [tT])], [], []⟩ [tTURN, p] := fun p h => .turn h
  have nu : nmB uW = true := by decide
  have nv : nmB vW = true := by decide
  have ns : nmB sW = true := by decide
  have nf : nmB farW = true := by decide
  have hpl : ∀ i, 1 ≤ i → i ≤ m → pl i ∈ (spW a b m).steps.map (·.1) := fun i h1 h2 => by
    rw [spW_places]
    refine List.mem_cons_of_mem _ (List.mem_append_left _ (List.mem_map.mpr ⟨i - 1, by rw [List.mem_range]; omega, by rw [show i - 1 + 1 = i by omega]⟩))
  have hu : uW ∈ (spW a b m).steps.map (·.1) := by rw [spW_places]; simp
  have hv : vW ∈ (spW a b m).steps.map (·.1) := by rw [spW_places]; simp
  have hf : farW ∈ (spW a b m).steps.map (·.1) := by rw [spW_places]; simp
  refine ⟨by simp [spW], by simp [spW], ?_, by simpa [spW] using hab, by simp [spW]; omega, spW_nd a b m, ?_, ?_, ?_, ?_⟩
  · intro l hl
    simp [spW] at hl
    rcases hl with rfl | rfl
    · exact ⟨ha, by simp, by simp, by simp [tT]; decide, by simp⟩
    · exact ⟨hb, by simp, by simp, by simp [tT]; decide, by simp⟩
  · intro e he
    simp only [spW, List.mem_cons, List.mem_append, List.mem_map, List.mem_range, List.not_mem_nil, or_false] at he
    rcases he with rfl | ⟨j, hj, rfl⟩ | rfl | rfl | rfl
    · exact ns
    · exact pl_nm (by omega)
    · exact nu
    · exact nv
    · exact nf
  · intro e he s hs
    simp only [spW, List.mem_cons, List.mem_append, List.mem_map, List.mem_range, List.not_mem_nil, or_false] at he
    rcases he with rfl | ⟨j, hj, rfl⟩ | rfl | rfl | rfl
    · simp only [List.mem_cons, List.not_mem_nil, or_false] at hs
      rcases hs with rfl | rfl
      · exact ⟨ttu _ nu, hu⟩
      · exact ⟨tin _ (pl_nm (by omega)), hpl 1 (by omega) (by omega)⟩
    · have hs := List.mem_singleton.mp hs
      subst hs
      unfold wst
      split
      · exact ⟨tin _ (pl_nm (by omega)), hpl _ (by omega) (by omega)⟩
      · exact ⟨ttu _ nu, hu⟩
    · have hs := List.mem_singleton.mp hs
      subst hs
      exact ⟨tin _ nv, hv⟩
    · have hs := List.mem_singleton.mp hs
      subst hs
      exact ⟨tpu _ nu, hu⟩
    · have hs := List.mem_singleton.mp hs
      subst hs
      exact ⟨tin _ nf, hf⟩
  · intro e he
    simp only [spW, List.mem_cons, List.mem_append, List.mem_map, List.mem_range, List.not_mem_nil, or_false] at he
    rcases he with rfl | ⟨j, hj, rfl⟩ | rfl | rfl | rfl <;> simp
  · have := sum_le_len (fun _ : Nat => 1) 1 (List.range m) (by simp)
    rw [List.length_range] at this
    simp only [spW, List.map_cons, List.map_append, List.map_map, Function.comp_def, List.sum_cons, List.sum_append, List.map_nil, List.sum_nil, List.length_cons, List.length_nil, Nat.zero_add] at this ⊢
    omega
theorem spW_atS : (spW a b m).box.at_ sW = [[tTURN, uW], [tTAKE, a, tT, pl 1]] :=
  at_of (spW_good ha hb hab hm).reads.wf.nd (e := (sW, [[tTURN, uW], [tTAKE, a, tT, pl 1]])) (by simp [Spec.box, Spec.rs, Rs.box, spW])
theorem spW_atP {j : Nat} (hj : j < m) : (spW a b m).box.at_ (pl (j + 1)) = [wst a m (j + 1)] :=
  at_of (spW_good ha hb hab hm).reads.wf.nd (e := (pl (j + 1), [wst a m (j + 1)])) (by
    simp only [Spec.box, Spec.rs, Rs.box, spW, List.mem_cons, List.mem_append, List.mem_map, List.mem_range]
    exact .inr (.inl ⟨j, hj, rfl⟩))
theorem spW_atU : (spW a b m).box.at_ uW = [[tTAKE, a, tT, vW]] :=
  at_of (spW_good ha hb hab hm).reads.wf.nd (e := (uW, [[tTAKE, a, tT, vW]])) (by simp [Spec.box, Spec.rs, Rs.box, spW])
theorem spW_atV : (spW a b m).box.at_ vW = [[tPUT, b, tT, uW]] :=
  at_of (spW_good ha hb hab hm).reads.wf.nd (e := (vW, [[tPUT, b, tT, uW]])) (by simp [Spec.box, Spec.rs, Rs.box, spW])
omit ha hb hab hm in
theorem spW_gT (p : Tx) : (spW a b m).box.gain [tTAKE, a, tT, p] = 1 := by
  show (((spW a b m).box.wts).lookup a).getD 0 = _
  simp [spW, Spec.box, Spec.rs, Rs.box, BoxD.wts, lnL]
omit ha hb hm in
theorem spW_gP (p : Tx) : (spW a b m).box.gain [tPUT, b, tT, p] = -1 := by
  show -(((spW a b m).box.wts).lookup b).getD 0 = _
  have : (b == a) = false := by simp [Ne.symm hab]
  simp [spW, Spec.box, Spec.rs, Rs.box, BoxD.wts, lnL, List.lookup_cons, this]
omit ha hb hab hm in
theorem spW_gU (p : Tx) : (spW a b m).box.gain [tTURN, p] = 0 := rfl
def InvW (m : Nat) (p : Tx) (l : Int) : Prop := (p = sW ∧ l = 0) ∨ (∃ j, j < m ∧ p = pl (j + 1) ∧ l = (j : Int) + 1) ∨ (p = uW ∧ (l = 0 ∨ l = m)) ∨ (p = vW ∧ (l = 1 ∨ l = (m : Int) + 1))
theorem spW_walks : ∀ (n : Nat) {wk : List (Tx × List Tx)} {p : Tx}, wk.length = n → Walk (spW a b m).box sW wk p → InvW m p ((spW a b m).box.load wk) := by
  intro n
  induction n with
  | zero =>
    intro wk p hn h
    have : wk = [] := by simpa using hn
    subst this
    cases h
    exact .inl ⟨rfl, rfl⟩
  | succ n ih =>
    intro wk p hn h
    rcases h.last with ⟨rfl, rfl⟩ | ⟨r, c, s, rfl, h1, hs, rfl⟩
    · simp at hn
    · rw [load_app]
      rcases ih (by simpa using hn) h1 with ⟨rfl, e⟩ | ⟨j, hj, rfl, e⟩ | ⟨rfl, e⟩ | ⟨rfl, e⟩
      · rw [spW_atS ha hb hab hm] at hs
        simp only [List.mem_cons, List.not_mem_nil, or_false] at hs
        rcases hs with rfl | rfl
        · exact .inr (.inr (.inl ⟨rfl, .inl (by rw [e]; rfl)⟩))
        · refine .inr (.inl ⟨0, by omega, rfl, ?_⟩)
          simp only [BoxD.load, spW_gT, e]
          omega
      · rw [spW_atP ha hb hab hm hj] at hs
        have hs := List.mem_singleton.mp hs
        subst hs
        unfold wst
        by_cases z : j + 1 < m
        · rw [if_pos z]
          refine .inr (.inl ⟨j + 1, z, rfl, ?_⟩)
          simp only [BoxD.load, spW_gT, e]
          omega
        · rw [if_neg z]
          refine .inr (.inr (.inl ⟨rfl, .inr ?_⟩))
          simp only [BoxD.load, spW_gU, e]
          omega
      · rw [spW_atU ha hb hab hm] at hs
        have hs := List.mem_singleton.mp hs
        subst hs
        refine .inr (.inr (.inr ⟨rfl, ?_⟩))
        simp only [BoxD.load, spW_gT]
        omega
      · rw [spW_atV ha hb hab hm] at hs
        have hs := List.mem_singleton.mp hs
        subst hs
        refine .inr (.inr (.inl ⟨rfl, ?_⟩))
        simp only [BoxD.load, spW_gP hab]
        omega
def rkW (p : Tx) : Nat := if p = uW ∨ p = vW then 100 else plIx p
def rkU (p : Tx) : Nat := if p = uW then 1 else 0
def phW (p : Tx) : Int := if p = vW then 1 else 0
theorem spW_even : Even (spW a b m).box rkU 1 := by
  have hd : (spW a b m).box.places.headD [] = sW := by
    show ((spW a b m).steps.map (·.1)).headD [] = _
    rw [spW_places]; rfl
  have np : ∀ i, rkU (pl i) = 0 := fun i => if_neg (ne_pl (x := uW) (by decide) i).symm
  refine ⟨⟨?_, fun p => ?_, by decide⟩, ?_⟩
  · intro p s hs h2
    obtain ⟨e, he, rfl, hse⟩ := mem_of_at hs
    have he : e ∈ (spW a b m).steps := he
    simp only [spW, List.mem_cons, List.mem_append, List.mem_map, List.mem_range, List.not_mem_nil, or_false] at he
    rcases he with rfl | ⟨j, hj, rfl⟩ | rfl | rfl | rfl
    · simp only [List.mem_cons, List.not_mem_nil, or_false] at hse
      rcases hse with rfl | rfl
      · show 0 < 1; omega
      · simp at h2
    · have hs := List.mem_singleton.mp hse
      subst hs
      show rkU (pl (j + 1)) < _
      rw [np]
      unfold wst at h2 ⊢
      split at h2
      · simp at h2
      · rename_i z
        rw [if_neg z]
        show 0 < 1; omega
    · have hs := List.mem_singleton.mp hse
      subst hs
      simp at h2
    · have hs := List.mem_singleton.mp hse
      subst hs
      simp at h2
    · have hs := List.mem_singleton.mp hse
      subst hs
      simp at h2
  · unfold rkU
    split <;> omega
  · rw [hd]
    have rp : ∀ i, rkW (pl i) = i := fun i => by
      unfold rkW
      rw [if_neg, plIx_pl]
      rintro (e | e)
      · exact ne_pl (x := uW) (by decide) _ e.symm
      · exact ne_pl (x := vW) (by decide) _ e.symm
    have rs : rkW sW = 0 := by decide
    have ru : rkW uW = 100 := by decide
    have rv : rkW vW = 100 := by decide
    refine even_of rkW phW ?_
    rintro p ⟨wk, hwk⟩ s hs
    rcases spW_walks ha hb hab hm _ rfl hwk with ⟨rfl, e⟩ | ⟨j, hj, rfl, e⟩ | ⟨rfl, e⟩ | ⟨rfl, e⟩
    · rw [spW_atS ha hb hab hm] at hs
      simp only [List.mem_cons, List.not_mem_nil, or_false] at hs
      rcases hs with rfl | rfl
      · show rkW sW ≤ rkW uW ∧ (rkW sW = rkW uW → _)
        rw [rs, ru]
        exact ⟨by omega, fun e => by omega⟩
      · show rkW sW ≤ rkW (pl 1) ∧ (rkW sW = rkW (pl 1) → _)
        rw [rs, rp]
        exact ⟨by omega, fun e => by omega⟩
    · rw [spW_atP ha hb hab hm hj] at hs
      have hs := List.mem_singleton.mp hs
      subst hs
      unfold wst
      by_cases z : j + 1 < m
      · rw [if_pos z]
        show rkW (pl (j + 1)) ≤ rkW (pl (j + 1 + 1)) ∧ (rkW (pl (j + 1)) = rkW (pl (j + 1 + 1)) → _)
        rw [rp, rp]
        exact ⟨by omega, fun e => by omega⟩
      · rw [if_neg z]
        show rkW (pl (j + 1)) ≤ rkW uW ∧ (rkW (pl (j + 1)) = rkW uW → _)
        rw [rp, ru]
        exact ⟨by omega, fun e => by omega⟩
    · rw [spW_atU ha hb hab hm] at hs
      have hs := List.mem_singleton.mp hs
      subst hs
      show rkW uW ≤ rkW vW ∧ (rkW uW = rkW vW → phW vW = phW uW + _)
      rw [ru, rv, spW_gT]
      exact ⟨Nat.le_refl _, fun _ => by decide⟩
    · rw [spW_atV ha hb hab hm] at hs
      have hs := List.mem_singleton.mp hs
      subst hs
      show rkW vW ≤ rkW uW ∧ (rkW vW = rkW uW → phW uW = phW vW + _)
      rw [ru, rv, spW_gP hab]
      exact ⟨Nat.le_refl _, fun _ => by decide⟩
theorem spW_path : ∀ (j : Nat), j < m → ∃ wk, Walk (spW a b m).box sW wk (pl (j + 1)) ∧ (spW a b m).box.load wk = (j : Int) + 1
  | 0, h => ⟨[(sW, [tTAKE, a, tT, pl 1])], .cons (by rw [spW_atS ha hb hab hm]; simp) .nil, by simp only [BoxD.load, spW_gT]; omega⟩
  | j + 1, h => by
    obtain ⟨wk, h1, h2⟩ := spW_path j (by omega)
    have hs : [tTAKE, a, tT, pl (j + 1 + 1)] ∈ (spW a b m).box.at_ (pl (j + 1)) := by
      rw [spW_atP ha hb hab hm (by omega)]
      unfold wst
      rw [if_pos h]
      simp
    exact ⟨_, h1.snoc hs, by rw [load_app, h2]; simp only [BoxD.load, spW_gT]; omega⟩
def dueW (m : Nat) : List Lrow := (sW, 0, 0) :: (((List.range m).map fun j => (pl (j + 1), ((j : Int) + 1), ((j : Int) + 1))) ++ [(uW, 0, (m : Int)), (vW, 1, (m : Int) + 1)])
theorem spW_rows {rows : List Lrow} (h : LoadsOf (spW a b m).box sW rows) : rows = dueW m := by
  have hp : (spW a b m).box.places = sW :: (((List.range m).map fun j => pl (j + 1)) ++ [uW, vW, farW]) := spW_places a b m
  have u0 : Walk (spW a b m).box sW [(sW, [tTURN, uW])] uW := .cons (by rw [spW_atS ha hb hab hm]; simp) .nil
  obtain ⟨wk, hk, hk2⟩ := spW_path ha hb hab hm (m - 1) (by omega)
  have um : Walk (spW a b m).box sW (wk ++ [(pl (m - 1 + 1), [tTURN, uW])]) uW := hk.snoc (s := [tTURN, uW]) (by
    rw [spW_atP ha hb hab hm (by omega)]
    unfold wst
    rw [if_neg (by omega)]
    simp)
  have lm : (spW a b m).box.load (wk ++ [(pl (m - 1 + 1), [tTURN, uW])]) = m := by
    rw [load_app, hk2]; simp only [BoxD.load, spW_gU]; omega
  have hv : [tTAKE, a, tT, vW] ∈ (spW a b m).box.at_ uW := by rw [spW_atU ha hb hab hm]; simp
  have np : ∀ {x : Tx} (i : Nat), x.head? ≠ some 112 → x ≠ pl i := fun i h => ne_pl h i
  refine rows_eq h (fun p => decide (p ≠ farW)) ?_ ?_ ?_
  · intro p hpp
    rw [hp] at hpp
    simp only [List.mem_cons, List.mem_append, List.mem_map, List.mem_range, List.not_mem_nil, or_false] at hpp
    rcases hpp with rfl | ⟨j, hj, rfl⟩ | rfl | rfl | rfl
    · exact ⟨fun _ => ⟨[], .nil⟩, fun _ => by decide⟩
    · obtain ⟨w, hw, _⟩ := spW_path ha hb hab hm j hj
      exact ⟨fun _ => ⟨w, hw⟩, fun _ => by simpa using (ne_pl (x := farW) (by decide) (j + 1)).symm⟩
    · exact ⟨fun _ => ⟨_, u0⟩, fun _ => by decide⟩
    · exact ⟨fun _ => ⟨_, u0.snoc hv⟩, fun _ => by decide⟩
    · refine ⟨fun z => absurd z (by decide), ?_⟩
      rintro ⟨w, hw⟩
      rcases spW_walks ha hb hab hm _ rfl hw with ⟨e, _⟩ | ⟨j, hj, e, _⟩ | ⟨e, _⟩ | ⟨e, _⟩
      · exact absurd e (by decide)
      · exact absurd e (ne_pl (x := farW) (by decide) _)
      · exact absurd e (by decide)
      · exact absurd e (by decide)
  · rw [hp]
    unfold dueW
    have hf : ((List.range m).map fun j => pl (j + 1)).filter (fun p => decide (p ≠ farW)) = (List.range m).map fun j => pl (j + 1) := List.filter_eq_self.mpr (by
      intro x hx
      obtain ⟨j, _, rfl⟩ := List.mem_map.mp hx
      exact decide_eq_true (ne_pl (x := farW) (by decide) (j + 1)).symm)
    rw [List.map_cons, List.filter_cons_of_pos (by decide), List.map_append, List.filter_append, hf, List.map_map]
    rfl
  · intro r hr
    have c0 : ∀ {p : Tx} {wk : List (Tx × List Tx)}, Walk (spW a b m).box sW wk p → InvW m p ((spW a b m).box.load wk) := fun h => spW_walks ha hb hab hm _ rfl h
    simp only [dueW, List.mem_cons, List.mem_append, List.mem_map, List.mem_range, List.not_mem_nil, or_false] at hr
    have d1 : sW ≠ uW := by decide
    have d2 : sW ≠ vW := by decide
    have d3 : uW ≠ vW := by decide
    have d4 := fun i => ne_pl (x := sW) (by decide) i
    have d5 := fun i => ne_pl (x := uW) (by decide) i
    have d6 := fun i => ne_pl (x := vW) (by decide) i
    rcases hr with rfl | ⟨j, hj, rfl⟩ | rfl | rfl
    · refine ⟨⟨[], .nil, rfl⟩, ⟨[], .nil, rfl⟩, fun w hw => ?_⟩
      rcases c0 hw with ⟨e, e2⟩ | ⟨j, hj, e, _⟩ | ⟨e, _⟩ | ⟨e, _⟩
      · simp only; omega
      · exact absurd e (d4 _)
      · exact absurd e d1
      · exact absurd e d2
    · have := spW_path ha hb hab hm j hj
      refine ⟨this, this, fun w hw => ?_⟩
      rcases c0 hw with ⟨e, e2⟩ | ⟨i, hi, e, e2⟩ | ⟨e, _⟩ | ⟨e, _⟩
      · exact absurd e.symm (d4 _)
      · have := pl_inj e
        simp only
        omega
      · exact absurd e.symm (d5 _)
      · exact absurd e.symm (d6 _)
    · refine ⟨⟨_, u0, rfl⟩, ⟨_, um, lm⟩, fun w hw => ?_⟩
      rcases c0 hw with ⟨e, e2⟩ | ⟨i, hi, e, e2⟩ | ⟨e, e2⟩ | ⟨e, _⟩
      · exact absurd e.symm d1
      · exact absurd e (d5 _)
      · simp only; omega
      · exact absurd e d3
    · refine ⟨⟨_, u0.snoc hv, by rw [load_app]; simp only [BoxD.load, spW_gU, spW_gT]; omega⟩, ⟨_, um.snoc hv, by rw [load_app, lm]; simp only [BoxD.load, spW_gT]; omega⟩, fun w hw => ?_⟩
      rcases c0 hw with ⟨e, e2⟩ | ⟨i, hi, e, e2⟩ | ⟨e, e2⟩ | ⟨e, e2⟩
      · exact absurd e.symm d2
      · exact absurd e (d6 _)
      · exact absurd e.symm d3
      · simp only; omega
end
end Mi
-- B29
namespace Mi
local macro_rules | `(tactic| decreasing_trivial_pre_omega) => `(tactic| repeat (first | (with_reducible refine w_seq ?_) | (with_reducible refine w_set ?_) | (with_reducible refine w_asg ?_) | (with_reducible refine w_par ?_) | (with_reducible refine w_setsub ?_) | (with_reducible refine w_iff ?_) | (with_reducible refine w_ret ?_) | (with_reducible refine w_expr ?_) | (with_reducible refine w_end ?_) | (with_reducible refine w_con ?_) | (with_reducible refine w_bin ?_) | (with_reducible refine w_neg ?_) | (with_reducible refine w_cmp ?_) | (with_reducible refine w_chn ?_) | (with_reducible refine w_and ?_) | (with_reducible refine w_or ?_) | (with_reducible refine w_not ?_) | (with_reducible refine w_ite ?_) | (with_reducible refine w_sub ?_) | (with_reducible refine w_sli ?_) | (with_reducible refine w_rev ?_) | (with_reducible refine w_fld ?_) | (with_reducible refine w_call ?_) | (with_reducible refine w_bmt ?_) | (with_reducible refine w_blt ?_) | (with_reducible refine w_isi ?_) | (with_reducible refine w_lst ?_) | (with_reducible refine w_tup ?_) | (with_reducible refine w_nil ?_) | (with_reducible refine w_arg ?_) | (with_reducible refine w_star ?_) | (with_reducible refine w_tr ?_) | (with_reducible refine o_add ?_) | (with_reducible refine o_sub ?_) | (with_reducible refine o_mod (by omega) ?_) | (with_reducible refine o_div (by omega) (by omega) ?_) | (with_reducible refine b_int ?_) | (with_reducible refine b_abs ?_) | (with_reducible refine b_max ?_) | (with_reducible refine b_min ?_) | (with_reducible refine c_lt ?_) | (with_reducible refine c_le ?_) | (with_reducible refine c_gt ?_) | (with_reducible refine c_ge ?_) | (with_reducible refine e_int ?_) | (with_reducible refine e_str ?_) | (with_reducible refine n_int ?_) | (with_reducible refine n_str ?_) | (with_reducible refine l_tup ?_) | (with_reducible refine l_lsv ?_) | (with_reducible refine w_mth ?_) | (with_reducible refine is_str ?_) | (with_reducible refine u_tup ?_) | (with_reducible refine l_new ?_) | (with_reducible refine isN_non ?_) | (with_reducible refine notN_non ?_) | (with_reducible refine isN_tup ?_) | (with_reducible refine notN_tup ?_) | (with_reducible refine w_for ?_) | (with_reducible refine w_whl ?_) | (with_reducible refine w_ev ?_) | (with_reducible refine w_keys ?_) | (with_reducible refine w_rng ?_) | (with_reducible refine it_tup ?_) | (with_reducible refine w_lc ?_) | (with_reducible refine w_dic ?_) | (with_reducible refine w_pc ?_) | (with_reducible refine w_pn ?_) | (with_reducible refine w_tg ?_) | (with_reducible refine w_ng ?_) | (with_reducible refine w_cn ?_) | (with_reducible refine w_cs ?_) | (with_reducible refine w_os ?_) | (with_reducible refine w_ov ?_) | ((with_reducible apply w_var); exact rfl) | ((with_reducible refine if_yes ?_ ?_); exact rfl) | ((with_reducible refine if_no ?_ ?_); exact rfl)))
local macro_rules | `(tactic| array_get_dec) => `(tactic| repeat (first | (with_reducible refine w_seq ?_) | (with_reducible refine w_set ?_) | (with_reducible refine w_asg ?_) | (with_reducible refine w_par ?_) | (with_reducible refine w_setsub ?_) | (with_reducible refine w_iff ?_) | (with_reducible refine w_ret ?_) | (with_reducible refine w_expr ?_) | (with_reducible refine w_end ?_) | (with_reducible refine w_con ?_) | (with_reducible refine w_bin ?_) | (with_reducible refine w_neg ?_) | (with_reducible refine w_cmp ?_) | (with_reducible refine w_chn ?_) | (with_reducible refine w_and ?_) | (with_reducible refine w_or ?_) | (with_reducible refine w_not ?_) | (with_reducible refine w_ite ?_) | (with_reducible refine w_sub ?_) | (with_reducible refine w_sli ?_) | (with_reducible refine w_rev ?_) | (with_reducible refine w_fld ?_) | (with_reducible refine w_call ?_) | (with_reducible refine w_bmt ?_) | (with_reducible refine w_blt ?_) | (with_reducible refine w_isi ?_) | (with_reducible refine w_lst ?_) | (with_reducible refine w_tup ?_) | (with_reducible refine w_nil ?_) | (with_reducible refine w_arg ?_) | (with_reducible refine w_star ?_) | (with_reducible refine w_tr ?_) | (with_reducible refine o_add ?_) | (with_reducible refine o_sub ?_) | (with_reducible refine o_mod (by omega) ?_) | (with_reducible refine o_div (by omega) (by omega) ?_) | (with_reducible refine b_int ?_) | (with_reducible refine b_abs ?_) | (with_reducible refine b_max ?_) | (with_reducible refine b_min ?_) | (with_reducible refine c_lt ?_) | (with_reducible refine c_le ?_) | (with_reducible refine c_gt ?_) | (with_reducible refine c_ge ?_) | (with_reducible refine e_int ?_) | (with_reducible refine e_str ?_) | (with_reducible refine n_int ?_) | (with_reducible refine n_str ?_) | (with_reducible refine l_tup ?_) | (with_reducible refine l_lsv ?_) | (with_reducible refine w_mth ?_) | (with_reducible refine is_str ?_) | (with_reducible refine u_tup ?_) | (with_reducible refine l_new ?_) | (with_reducible refine isN_non ?_) | (with_reducible refine notN_non ?_) | (with_reducible refine isN_tup ?_) | (with_reducible refine notN_tup ?_) | (with_reducible refine w_for ?_) | (with_reducible refine w_whl ?_) | (with_reducible refine w_ev ?_) | (with_reducible refine w_keys ?_) | (with_reducible refine w_rng ?_) | (with_reducible refine it_tup ?_) | (with_reducible refine w_dic ?_) | (with_reducible refine w_pc ?_) | (with_reducible refine w_pn ?_) | (with_reducible refine w_tg ?_) | (with_reducible refine w_ng ?_) | (with_reducible refine w_cn ?_) | (with_reducible refine w_cs ?_) | (with_reducible refine w_os ?_) | (with_reducible refine w_ov ?_) | ((with_reducible apply w_var); exact rfl) | ((with_reducible refine if_yes ?_ ?_); exact rfl) | ((with_reducible refine if_no ?_ ?_); exact rfl)))
/-! ### k08: the law's own defs -/
theorem newbox_ok {P : Prog} (B : HasMake P) {N : Nat} {rk : Tx → Nat} {k : Nat} (hk : N + 8 ≤ k) {text : Tx} {R : Rs} {st : Sto} {Q : Post} {X : Xp} (rd : Reads text R) (ev : Even (R.box text) rk N)
    (q : ∀ bx ds dw st', BoxAt st' bx ds dw (R.box text) → Keep [] st st' → st.length ≤ bx → st.length ≤ ds → st.length ≤ dw → Q (.ref bx) st') :
    ∃ q', P.mt "Box" "__init__" = some q' ∧ sem P k q' [.ref st.length, .str text] (st ++ [.ins "Box" []]) (fun v st2 => v = .non ∧ Q (.ref st.length) st2) X := by
  refine ⟨_, B.mbi, box_ok B hk get_new rd ev fun ds dw st' b k1 h1 h2 => ⟨rfl, ?_⟩⟩
  simp at h1 h2
  refine q _ ds dw st' b ?_ (Nat.le_refl _) (by omega) (by omega)
  exact ⟨by have := k1.le; simp at this; omega, fun c o _ hc => k1.at_ _ _ (by have := (List.getElem?_eq_some_iff.mp hc).1; simp; omega) (get_app hc)⟩
def d_place : IDef := ⟨1, 1, [
    .ret (.bin .add (.bin .add (.con (.str [112])) (.sub (.con (.str lowers)) (.blt .int (.cons (.bin .fdiv (.var 0) (.con (.int 26))) .nil)))) (.sub (.con (.str lowers)) (.blt .int (.cons (.bin .mod (.var 0) (.con (.int 26))) .nil))))]⟩
theorem low_at {i : Nat} (h : i < 26) : (ixOf lowers.length (i : Int)).bind (lowers[·]?) = some (97 + i) := by
  rw [ix_nat (by show i < 26; exact h)]
  revert h
  have : ∀ j, j < 26 → (some j).bind (lowers[·]?) = some (97 + j) := by decide
  exact this i
theorem o_adds {a b : Tx} {st : Sto} {Q : Post} (hl : a.length + b.length ≤ big) (q : Q (.str (a ++ b)) st) : opBin .add (.str a) (.str b) st Q := ⟨hl, q⟩
theorem place_ok {P : Prog} (hP : P.df "_law_place" = some d_place) {k : Nat} (hk : 1 ≤ k) {i : Nat} (hi : i < 600) {st : Sto} {Q : Post} {X : Xp} (q : Q (.str (pl i)) st) : sem P k "_law_place" [.int i] st Q X := by
  refine sem_go hk hP rfl ?_
  show wpSs P _ [_] _ [some (.int i)] st
  decreasing_trivial_pre_omega
  have e1 : (i : Int) / 26 = ((i / 26 : Nat) : Int) := by omega
  have e2 : (i : Int) % 26 = ((i % 26 : Nat) : Int) := by omega
  rw [e1]
  refine g_sgn (by decide) (low_at (by omega)) ?_
  refine o_adds (by simp [big]) ?_
  decreasing_trivial_pre_omega
  rw [e2]
  refine g_sgn (by decide) (low_at (Nat.mod_lt _ (by decide))) ?_
  refine o_adds (by simp [big]) ?_
  exact q
def wordT (x : Bool) : Tx := if x then tTAKE else tPUT
def d_straight : IDef := ⟨4, 8, [
    .asg (.name 4) (.lst (.cons (.bin .add (.bin .add (.bin .add (.bin .add (.con (.str [105, 110, 32])) (.var 0)) (.con (.str [32]))) (.blt .str (.cons (.var 2) .nil))) (.con (.str [32, 116]))) (.cons (.bin .add (.bin .add (.bin .add (.bin .add (.con (.str [111, 117, 116, 32])) (.var 1)) (.con (.str [32]))) (.blt .str (.cons (.var 2) .nil))) (.con (.str [32, 116]))) .nil))),
    .for_ (.tup [5, 6]) (.enu (.var 3)) [.asg (.name 7) (.ite (.cmp .eq (.var 6) (.con (.str [116, 97, 107, 101]))) (.var 0) (.var 1)), .expr (.bmt (.var 4) .extend (.cons (.lst (.cons (.bin .add (.con (.str [97, 116, 32])) (.call "_law_place" (.cons (.var 5) .nil))) (.cons (.bmt (.con (.str [32])) .join (.cons (.lst (.cons (.var 6) (.cons (.var 7) (.cons (.con (.str [116])) (.cons (.call "_law_place" (.cons (.bin .add (.var 5) (.con (.int 1))) .nil)) .nil))))) .nil)) .nil))) .nil))],
    .ret (.new "Box" (.cons (.bmt (.con (.str [10])) .join (.cons (.bin .add (.var 4) (.lst (.cons (.bin .add (.con (.str [97, 116, 32])) (.call "_law_place" (.cons (.blt .len (.cons (.var 3) .nil)) .nil))) .nil))) .nil)) .nil))]⟩
theorem b_str {rp : PD → Tx} {i : Int} {st : Sto} {Q : Post} (h : i.natAbs < 2 ^ 1000) (q : Q (.str (intTx i)) st) : opBlt rp .str [.int i] st Q := ⟨h, q⟩
theorem m_ext {p b : Nat} {xs ys : List MV} {st : Sto} {Q : Post} (h : st[p]? = some (.lst xs)) (hb : st[b]? = some (.lst ys)) (hl : xs.length + ys.length ≤ big) (q : Q .non (st.set p (.lst (xs ++ ys)))) : opBmt .extend (.ref p) [.ref b] st Q := ⟨p, xs, b, ys, rfl, h, rfl, hb, hl, q⟩
theorem m_join {s : Tx} {b : Nat} {ws : List Tx} {st : Sto} {Q : Post} (hb : st[b]? = some (.lst (ws.map .str))) (hl : (ws.map (·.length)).sum + ws.length * s.length ≤ big) (q : Q (.str (joinBy s ws)) st) : opBmt .join (.str s) [.ref b] st Q := ⟨s, .ref b, ws, rfl, rfl, by simp [seqOf, hb], hl, q⟩
theorem int12 {w : Nat} (h : 1 ≤ w ∧ w ≤ 2) : intTx (w : Int) = [48 + w] ∧ ((w : Int)).natAbs < 2 ^ 1000 := by
  obtain rfl | rfl : w = 1 ∨ w = 2 := by omega
  · exact ⟨by decide, by decide +kernel⟩
  · exact ⟨by decide, by decide +kernel⟩
/-- the rows of the straight box, joined -/
def rowA (a b : Tx) (w : Nat) : List Tx := [joinBy [32] (lnR tIN (a, w, [tT])), joinBy [32] (lnR tOUT (b, w, [tT]))]
def rowP (a b : Tx) (ws : List Bool) (i : Nat) : List Tx := ([tAT, pl i] :: stp a b ws i).map (joinBy [32])
theorem spA_text (a b : Tx) (w : Nat) (ws : List Bool) : (spA a b w ws).text = joinBy [10] (rowA a b w ++ (List.range ws.length).flatMap (rowP a b ws) ++ [joinBy [32] [tAT, pl ws.length]]) := by
  have e : stp a b ws ws.length = [] := List.length_eq_zero_iff.mp (stp_len a b ws 0).2
  unfold Spec.text Spec.rows Spec.stepRows
  congr 1
  simp only [spA, List.map_append, List.map_cons, List.map_nil, rowA, List.range_succ, List.flatMap_append, List.flatMap_cons, List.flatMap_nil, List.append_nil, List.cons_append, List.nil_append, e, List.flatMap_map, List.map_flatMap]
  rfl
theorem row_len {r : List Tx} (h : r.length ≤ 5) (h2 : ∀ w ∈ r, w.length ≤ 8) : (joinBy [32] r).length ≤ 45 := by
  have := joinBy_len (s := [32]) (m := 8) (ws := r) h2
  have : r.length * (8 + [32].length) ≤ 5 * 9 := Nat.mul_le_mul h (by simp)
  omega
theorem sum_len_le {c : Nat} : ∀ ws : List Tx, (∀ w ∈ ws, w.length ≤ c) → (ws.map (·.length)).sum ≤ c * ws.length := fun ws h => sum_le_len (·.length) c ws h
section
variable {P : Prog} (B : HasMake P) (hPl : P.df "_law_place" = some d_place) (hSt : P.df "_law_straight" = some d_straight) {a b : Tx} {w : Nat} {ws : List Bool} (ha : nmB a = true) (hb : nmB b = true) (hab : a ≠ b) (hw : 1 ≤ w ∧ w ≤ 2) (hl : ws.length ≤ 39)
include B hPl hSt ha hb hab hw hl
set_option maxHeartbeats 1000000 in
theorem straight_ok {k : Nat} (hk : 9 ≤ k) {q : Nat} {st : Sto} {Q : Post} {X : Xp} (hq : st[q]? = some (.lst ((ws.map wordT).map .str)))
    (r : ∀ bx ds dw st', BoxAt st' bx ds dw (spA a b w ws).box → Keep [] st st' → st.length ≤ bx → st.length ≤ ds → st.length ≤ dw → Q (.ref bx) st') : sem P k "_law_straight" [.str a, .str b, .int w, .ref q] st Q X := by
  refine sem_go (by omega) hSt rfl ?_
  show wpSs P _ [_, _, _] _ [some (.str a), some (.str b), some (.int w), some (.ref q), none, none, none, none] st
  obtain ⟨la1, la2⟩ := nm_len ha
  obtain ⟨lb1, lb2⟩ := nm_len hb
  obtain ⟨i1, i2⟩ := int12 hw
  decreasing_trivial_pre_omega
  refine o_adds (by simp [big]; omega) ?_
  decreasing_trivial_pre_omega
  refine o_adds (by simp [big]; omega) ?_
  decreasing_trivial_pre_omega
  refine b_str i2 ?_
  rw [i1]
  refine o_adds (by simp [big]; omega) ?_
  decreasing_trivial_pre_omega
  refine o_adds (by simp [big]; omega) ?_
  decreasing_trivial_pre_omega
  refine o_adds (by simp [big]; omega) ?_
  decreasing_trivial_pre_omega
  refine o_adds (by simp [big]; omega) ?_
  decreasing_trivial_pre_omega
  refine b_str i2 ?_
  rw [i1]
  refine o_adds (by simp [big]; omega) ?_
  decreasing_trivial_pre_omega
  refine o_adds (by simp [big]; omega) ?_
  decreasing_trivial_pre_omega
  refine ⟨by simp [big], ?_⟩
  have e0 : [MV.str ([105, 110, 32] ++ a ++ [32] ++ [48 + w] ++ [32, 116]), MV.str ([111, 117, 116, 32] ++ b ++ [32] ++ [48 + w] ++ [32, 116])] = (rowA a b w).map .str := by
    simp [rowA, lnR, joinBy, tIN, tOUT, tT]
  rw [e0]
  decreasing_trivial_pre_omega
  refine w_enu ?_
  decreasing_trivial_pre_omega
  refine ⟨_, _, rfl, get_app hq, ?_⟩
  have qlt := (List.getElem?_eq_some_iff.mp hq).1
  have hrow : ∀ i, i < ws.length → (rowP a b ws i).length = 2 := fun i hi => by
    unfold rowP stp
    rw [List.getElem?_eq_getElem hi]
    cases ws[i] <;> rfl
  have hfl : ∀ n, n ≤ ws.length → ((List.range n).flatMap (rowP a b ws)).length = 2 * n := by
    intro n
    induction n with
    | zero => intro _; rfl
    | succ n ih =>
      intro hn
      rw [List.range_succ, List.flatMap_append, List.length_append, ih (by omega)]
      simp [hrow n (by omega)]
      omega
  refine loop_go (fun pre σ st' => ∃ x5 x6 x7, pre.length ≤ ws.length ∧ σ = [some (.str a), some (.str b), some (.int w), some (.ref q), some (.ref st.length), x5, x6, x7] ∧ Keep [] st st' ∧ st'[st.length]? = some (.lst ((rowA a b w ++ (List.range pre.length).flatMap (rowP a b ws)).map .str))) ?_ ?_ ?_ ?_
  · exact ⟨none, none, none, Nat.zero_le _, rfl, Keep.app _ _ _, by rw [get_new]; simp⟩
  · rintro pre σ st' ⟨_, _, _, _, _, k1, _⟩
    exact k1.at_ _ _ (by simp) hq
  · rintro pre x rr σ st' kk e ⟨x5, x6, x7, hp, rfl, k1, h1⟩ hkk
    obtain ⟨y, hy, rfl⟩ := enum_at e
    rw [List.map_map, List.getElem?_map] at hy
    cases hx : ws[pre.length]? with
    | none => rw [hx] at hy; cases hy
    | some z =>
      rw [hx] at hy
      cases hy
      have plt := (List.getElem?_eq_some_iff.mp hx).1
      refine w_tt rfl ?_
      have go : ∀ (ln : Tx), stp a b ws pre.length = [[wordT z, ln, tT, pl (pre.length + 1)]] → ln.length ≤ 8 →
          wpSs P (sem P (k - 1)) [.expr (.bmt (.var 4) .extend (.cons (.lst (.cons (.bin .add (.con (.str [97, 116, 32])) (.call "_law_place" (.cons (.var 5) .nil))) (.cons (.bmt (.con (.str [32])) .join (.cons (.lst (.cons (.var 6) (.cons (.var 7) (.cons (.con (.str [116])) (.cons (.call "_law_place" (.cons (.bin .add (.var 5) (.con (.int 1))) .nil)) .nil))))) .nil)) .nil))) .nil))]
            { nx := kk, ct := kk, bk := fun σ' st' => (wpSs P (sem P (k - 1)) [.ret (.new "Box" (.cons (.bmt (.con (.str [10])) .join (.cons (.bin .add (.var 4) (.lst (.cons (.bin .add (.con (.str [97, 116, 32])) (.call "_law_place" (.cons (.blt .len (.cons (.var 3) .nil)) .nil))) .nil))) .nil)) .nil))] ⟨fun _ st' => Q .non st', Q, fun _ _ => False, fun _ _ => False, fun c v _ st' => X c v st'⟩ σ' st'), rt := Q, ex := fun c v σ' st' => X c v st' }
            [some (.str a), some (.str b), some (.int w), some (.ref q), some (.ref st.length), some (.int ((0 + pre.length : Nat) : Int)), some (.str (wordT z)), some (.str ln)] st' := by
        intro ln hs hln
        decreasing_trivial_pre_omega
        refine ⟨bt_lst h1 rfl, ?_⟩
        decreasing_trivial_pre_omega
        refine place_ok hPl (by omega) (by omega) ?_
        refine o_adds (by simp [big, pl]) ?_
        decreasing_trivial_pre_omega
        refine ⟨rfl, ?_⟩
        decreasing_trivial_pre_omega
        rw [show ((0 + pre.length : Nat) : Int) + 1 = ((pre.length + 1 : Nat) : Int) by omega]
        refine place_ok hPl (by omega) (by omega) ?_
        decreasing_trivial_pre_omega
        refine ⟨by simp [big], ?_⟩
        decreasing_trivial_pre_omega
        refine m_join (ws := [wordT z, ln, tT, pl (pre.length + 1)]) get_new ?_ ?_
        · have : (wordT z).length ≤ 4 := by cases z <;> decide
          simp [big, tT, pl]; omega
        decreasing_trivial_pre_omega
        refine ⟨by simp [big], ?_⟩
        decreasing_trivial_pre_omega
        have h2 := get_app (t := [MO.lst ([wordT z, ln, tT, pl (pre.length + 1)].map .str)]) h1
        have h3 := fun t => get_app (t := t) h2
        refine m_ext (h3 _) get_new ?_ ?_
        · have := hfl pre.length hp
          simp only [List.length_map, List.length_append, this]
          simp [rowA, big]; omega
        decreasing_trivial_pre_omega
        refine hkk _ _ ⟨_, _, _, by simp; omega, rfl, ((k1.trans (Keep.app _ _ _)).trans (Keep.app _ _ _)).new _ (Nat.le_refl _), ?_⟩
        refine Eq.trans (get_set (h3 _)) ?_
        rw [show [MV.str ([97, 116, 32] ++ pl (0 + pre.length)), MV.str (joinBy [32] [wordT z, ln, tT, pl (pre.length + 1)])] = (rowP a b ws pre.length).map .str by
          simp [rowP, hs, joinBy, tAT], ← List.map_append]
        rw [List.length_append, List.length_singleton, List.range_succ, List.flatMap_append, ← List.append_assoc]
        simp
      show wpSs P _ _ _ [some (.str a), some (.str b), some (.int w), some (.ref q), some (.ref st.length), some (.int ((0 + pre.length : Nat) : Int)), some (.str (wordT z)), x7] st'
      decreasing_trivial_pre_omega
      cases z
      · refine if_no rfl ?_
        refine w_var rfl ?_
        exact go b (by simp [stp, hx, wordT]) lb2
      · refine if_yes rfl ?_
        refine w_var rfl ?_
        exact go a (by simp [stp, hx, wordT]) la2
  · rintro σ st' ⟨x5, x6, x7, hp, rfl, k1, h1⟩
    rw [enum_len, List.length_map, List.length_map] at h1
    have hlm := hfl ws.length (Nat.le_refl _)
    decreasing_trivial_pre_omega
    refine w_new ?_
    decreasing_trivial_pre_omega
    refine ⟨rfl, ?_⟩
    decreasing_trivial_pre_omega
    refine l_lst (k1.at_ _ _ (by simp) hq) ?_
    decreasing_trivial_pre_omega
    rw [show (((ws.map wordT).map MV.str).length : Int) = ((ws.length : Nat) : Int) by simp]
    refine place_ok hPl (by omega) (by omega) ?_
    refine o_adds (by simp [big, pl]) ?_
    decreasing_trivial_pre_omega
    refine ⟨by simp [big], ?_⟩
    decreasing_trivial_pre_omega
    refine o_addl (get_app h1) get_new ?_ ?_
    · simp only [List.length_map, List.length_append, hlm]
      simp [rowA, big]; omega
    decreasing_trivial_pre_omega
    have et : ((rowA a b w ++ (List.range ws.length).flatMap (rowP a b ws)).map MV.str ++ [MV.str ([97, 116, 32] ++ pl ws.length)]) = (rowA a b w ++ (List.range ws.length).flatMap (rowP a b ws) ++ [joinBy [32] [tAT, pl ws.length]]).map .str := by
      simp [joinBy, tAT]
    rw [et]
    have gd := spA_good ha hb hab hw hl
    have hrows : ∀ r ∈ rowA a b w ++ (List.range ws.length).flatMap (rowP a b ws) ++ [joinBy [32] [tAT, pl ws.length]], r.length ≤ 45 := by
      have h0 : ∀ r ∈ (spA a b w ws).rows.map (joinBy [32]), r.length ≤ 45 := fun r hr => by
        obtain ⟨x, hx, rfl⟩ := List.mem_map.mp hr
        obtain ⟨_, x2, x3⟩ := gd.row x hx
        exact row_len x2 fun w hw => (x3 w hw).2.2
      have e1 : (spA a b w ws).rows.map (joinBy [32]) = rowA a b w ++ (List.range ws.length).flatMap (rowP a b ws) ++ [joinBy [32] [tAT, pl ws.length]] := by
        have e : stp a b ws ws.length = [] := List.length_eq_zero_iff.mp (stp_len a b ws 0).2
        unfold Spec.rows Spec.stepRows
        simp only [spA, List.map_append, List.map_cons, List.map_nil, rowA, List.range_succ, List.flatMap_append, List.flatMap_cons, List.flatMap_nil, List.append_nil, List.cons_append, List.nil_append, e, List.flatMap_map, List.map_flatMap]
        rfl
      rw [← e1]
      exact h0
    refine m_join get_new ?_ ?_
    · have h1 := sum_len_le _ hrows
      have h2 : (rowA a b w ++ (List.range ws.length).flatMap (rowP a b ws) ++ [joinBy [32] [tAT, pl ws.length]]).length ≤ 83 := by
        simp only [List.length_append, hlm]
        simp [rowA]; omega
      have h3 : 45 * (rowA a b w ++ (List.range ws.length).flatMap (rowP a b ws) ++ [joinBy [32] [tAT, pl ws.length]]).length ≤ 45 * 83 := Nat.mul_le_mul_left _ h2
      simp only [List.length_singleton, big]
      omega
    decreasing_trivial_pre_omega
    rw [← spA_text]
    refine newbox_ok B (N := 0) (by omega) gd.reads (spA_even ha hb hab hw hl) fun bx ds dw st2 b2 k2 g1 g2 g3 => ?_
    have k3 := (k1.trans (Keep.app _ _ [MO.lst [MV.str ([97, 116, 32] ++ pl ws.length)]])).trans (Keep.app _ _ [MO.lst ((rowA a b w ++ (List.range ws.length).flatMap (rowP a b ws) ++ [joinBy [32] [tAT, pl ws.length]]).map .str)])
    have l3 := k3.le
    exact r bx ds dw st2 b2 (k3.trans k2) (by omega) (by omega) (by omega)
end
end Mi
-- B30
namespace Mi
def d_srt : IDef := ⟨3, 13, [
    .asg (.tup [7, 8, 9, 10]) (.tup (.cons (.bin .add (.con (.int 1)) (.call "_law_take" (.cons (.var 0) (.cons (.con (.int 2)) .nil)))) (.cons (.lst .nil) (.cons (.lst (.cons (.con (.int 0)) .nil)) (.cons (.con (.int 0)) .nil))))),
    .for_ (.name 3) (.rng (.call "_law_of" (.cons (.var 0) (.cons (.lst (.cons (.con (.int 1)) (.cons (.con (.int 5)) (.cons (.con (.int 12)) (.cons (.con (.int 39)) .nil))))) .nil)))) [.expr (.bmt (.var 8) .append (.cons (.call "_law_of" (.cons (.var 0) (.cons (.lst (.cons (.con (.str [116, 97, 107, 101])) (.cons (.con (.str [116, 97, 107, 101])) (.cons (.con (.str [112, 117, 116])) .nil)))) .nil))) .nil)), .asg (.name 10) (.bin .add (.var 10) (.ite (.cmp .eq (.sub (.var 8) (.neg (.con (.int 1)))) (.con (.str [116, 97, 107, 101]))) (.var 7) (.neg (.var 7)))), .expr (.bmt (.var 9) .append (.cons (.var 10) .nil))],
    .asg (.name 4) (.call "_law_straight" (.cons (.var 1) (.cons (.var 2) (.cons (.var 7) (.cons (.var 8) .nil))))),
    .asg (.name 5) (.blt .tuple (.cons (.lc (.tup (.cons (.call "_law_place" (.cons (.var 11) .nil)) (.cons (.var 12) (.cons (.var 12) .nil)))) (.tup [11, 12]) (.enu (.var 9)) .non [11, 12]) .nil)),
    .iff (.or (.cmp .ne (.blt .repr (.cons (.call "loads" (.cons (.var 4) .nil)) .nil)) (.blt .repr (.cons (.var 5) .nil))) (.cmp .ne (.call "span" (.cons (.var 4) .nil)) (.bin .sub (.blt .max (.cons (.var 9) .nil)) (.blt .min (.cons (.var 9) .nil))))) [.ret (.con (.bl false))] [],
    .asg (.name 6) (.call "_law_straight" (.cons (.var 1) (.cons (.var 2) (.cons (.con (.int 2)) (.cons (.bin .mul (.lst (.cons (.con (.str [116, 97, 107, 101])) .nil)) (.con (.int 39))) .nil))))),
    .ret (.and (.cmp .eq (.call "span" (.cons (.var 6) .nil)) (.con (.int 78))) (.cmp .eq (.sub (.call "loads" (.cons (.var 6) .nil)) (.neg (.con (.int 1)))) (.tup (.cons (.call "_law_place" (.cons (.con (.int 39)) .nil)) (.cons (.con (.int 78)) (.cons (.con (.int 78)) .nil))))))]⟩
def lrD (r : Lrow) : PD := .tup [.str r.1, .int r.2.1, .int r.2.2]
theorem lrs_pd {st : Sto} : ∀ rs : List Lrow, (rs.map lrV).mapM (toPD 29 st) = some (rs.map lrD)
  | [] => rfl
  | r :: rs => by
    rw [List.map_cons, List.mapM_cons, lrs_pd rs]
    rfl
theorem rows_pd {st : Sto} (rs : List Lrow) : toPD 30 st (.tup (rs.map lrV)) = some (.tup (rs.map lrD)) := by
  simp only [toPD, lrs_pd]; rfl
/-- rows that repr takes -/
structure Shy (rs : List Lrow) : Prop where
  nm : ∀ r ∈ rs, okTx r.1 ∧ r.1.length ≤ 8
  nb : ∀ r ∈ rs, r.2.1.natAbs < 1000 ∧ r.2.2.natAbs < 1000
  ln : rs.length ≤ 100
theorem rows_shy : ∀ rs : List Lrow, (∀ r ∈ rs, okTx r.1 ∧ r.1.length ≤ 8) → (∀ r ∈ rs, r.2.1.natAbs < 1000 ∧ r.2.2.natAbs < 1000) → PD.shyAll (rs.map lrD) = true ∧ PD.wtAll (rs.map lrD) ≤ rs.length * 200
  | [], _, _ => ⟨rfl, Nat.le_refl _⟩
  | r :: rs, h1, h2 => by
    obtain ⟨a, b⟩ := rows_shy rs (fun x hx => h1 x (List.mem_cons_of_mem _ hx)) (fun x hx => h2 x (List.mem_cons_of_mem _ hx))
    obtain ⟨c, d⟩ := h1 r List.mem_cons_self
    obtain ⟨e, f⟩ := h2 r List.mem_cons_self
    refine ⟨?_, ?_⟩
    · show (PD.shyAll [.str r.1, .int r.2.1, .int r.2.2] && PD.shyAll (rs.map lrD)) = true
      rw [a, Bool.and_true]
      show (r.1.all (fun c => decide (c < 1114112)) && (decide (r.2.1.natAbs < 1000000000000) && (decide (r.2.2.natAbs < 1000000000000) && true))) = true
      have : r.1.all (fun c => decide (c < 1114112)) = true := by
        rw [List.all_eq_true]
        exact fun c hc => decide_eq_true (by exact ‹okTx r.1› c hc)
      rw [this, decide_eq_true (show r.2.1.natAbs < 1000000000000 by omega), decide_eq_true (show r.2.2.natAbs < 1000000000000 by omega)]
      rfl
    · show (r.1.length + 1 + (41 + 1 + (41 + 1 + 0))) + 1 + PD.wtAll (rs.map lrD) ≤ _
      simp only [List.length_cons, Nat.succ_mul]
      omega
theorem repr_rows {P : Prog} (R : HasRp P) {st : Sto} {Q : Post} {rs : List Lrow} (s : Shy rs) (q : Q (.str (P.rp (.tup (rs.map lrD)))) st) : opBlt P.rp .repr [.tup (rs.map lrV)] st Q := by
  obtain ⟨a, b⟩ := rows_shy rs s.nm s.nb
  refine b_repr R (rows_pd rs) a ?_ q
  show PD.wtAll _ ≤ _
  have := s.ln
  have h : rs.length * 200 ≤ 100 * 200 := Nat.mul_le_mul_right _ this
  omega
theorem sum_abs {w : Nat} : ∀ l : List Bool, (List.sum (l.map fun (x : Bool) => if x then (w : Int) else -(w : Int))).natAbs ≤ w * l.length
  | [] => by simp
  | x :: l => by
    have := sum_abs (w := w) l
    simp only [List.map_cons, List.sum_cons, List.length_cons, Nat.mul_add, Nat.mul_one]
    cases x <;> simp <;> omega
theorem due_abs {w : Nat} {ws : List Bool} (hw : w ≤ 2) (hl : ws.length ≤ 39) (i : Nat) : (dueAt w ws i).natAbs ≤ 78 := by
  have h1 := sum_abs (w := w) (ws.take i)
  have h2 : (ws.take i).length ≤ 39 := by rw [List.length_take]; omega
  have h3 : w * (ws.take i).length ≤ 2 * 39 := Nat.mul_le_mul hw h2
  unfold dueAt
  omega
theorem dueRows_shy {w : Nat} {ws : List Bool} (hw : w ≤ 2) (hl : ws.length ≤ 39) : Shy (dueRows w ws) := by
  refine ⟨fun r hr => ?_, fun r hr => ?_, by simp [dueRows]; omega⟩
  · obtain ⟨i, hi, rfl⟩ := List.mem_map.mp hr
    rw [List.mem_range] at hi
    exact ⟨nm_ok (pl_nm (by omega)), by simp [pl_len]⟩
  · obtain ⟨i, hi, rfl⟩ := List.mem_map.mp hr
    have := due_abs hw hl i
    exact ⟨by simp only; omega, by simp only; omega⟩
theorem o_mull {a : Nat} {xs : List MV} {k : Int} {st : Sto} {Q : Post} (h : st[a]? = some (.lst xs)) (h0 : 0 ≤ k) (h1 : k < 1000) (h2 : xs.length ≤ 1000) (q : Q (.ref st.length) (st ++ [.lst (List.replicate k.toNat xs).flatten])) : opBin .mul (.ref a) (.int k) st Q := by
  refine ⟨xs, h, h0, by omega, ?_, q⟩
  have : xs.length * k.toNat ≤ 1000 * 1000 := Nat.mul_le_mul h2 (by omega)
  simp only [big]
  omega
structure Law8 (P : Prog) : Prop where
  B : HasMake P
  L : HasLoads P
  T : Draws P
  R : HasRp P
  of : P.df "_law_of" = some d_of
  so : P.df "_law_some" = some d_some
  pl : P.df "_law_place" = some d_place
  st : P.df "_law_straight" = some d_straight
  sr : P.df "_law_are_straight_right" = some d_srt
section
variable {P : Prog} (Z : Law8 P) {a b : Tx} (ha : nmB a = true) (hb : nmB b = true) (hab : a ≠ b)
include Z ha hb hab
theorem spA_first (w : Nat) (ws : List Bool) : ∃ fss rest, (spA a b w ws).box.steps = (Mi.pl 0, fss) :: rest := by
  refine ⟨stp a b ws 0, ((List.range ws.length).map Nat.succ).map fun i => (Mi.pl i, stp a b ws i), ?_⟩
  show (List.range (ws.length + 1)).map _ = _
  rw [List.range_succ_eq_map]
  rfl
theorem spA_ev {w : Nat} {ws : List Bool} (hw : 1 ≤ w ∧ w ≤ 2) (hl : ws.length ≤ 39) : ∀ p, Reach (spA a b w ws).box (Mi.pl 0) p → ∀ wk, Walk (spA a b w ws).box p wk p → (spA a b w ws).box.load wk = 0 := by
  have e := (spA_even ha hb hab hw hl).ev
  obtain ⟨fss, rest, hs⟩ := spA_first Z ha hb hab w ws
  rw [show (spA a b w ws).box.places.headD [] = Mi.pl 0 by simp [BoxD.places, hs]] at e
  exact e
theorem spA_loads {k : Nat} (hk : 4 ≤ k) {w : Nat} {ws : List Bool} (hw : 1 ≤ w ∧ w ≤ 2) (hl : ws.length ≤ 39) {st : Sto} {bx ds dw : Nat} {Q : Post} {X : Xp} (h : BoxAt st bx ds dw (spA a b w ws).box)
    (q : ∀ st', Keep [] st st' → Q (.tup ((dueRows w ws).map lrV)) st') : sem P k "loads" [.ref bx] st Q X := by
  obtain ⟨fss, rest, hs⟩ := spA_first Z ha hb hab w ws
  refine loads_ok Z.L h (spA_good ha hb hab hw hl).reads.wf (by omega) hs (spA_ev Z ha hb hab hw hl) fun rows st' lo k1 => ?_
  rw [spA_rows ha hb hab hw hl lo]
  exact q st' k1
theorem spA_span {k : Nat} (hk : 4 ≤ k) {w : Nat} {ws : List Bool} (hw : 1 ≤ w ∧ w ≤ 2) (hl : ws.length ≤ 39) {st : Sto} {bx ds dw : Nat} {Q : Post} {X : Xp} (h : BoxAt st bx ds dw (spA a b w ws).box)
    (q : ∀ hi lo st', hi ∈ (List.range (ws.length + 1)).map (dueAt w ws) → (∀ y ∈ (List.range (ws.length + 1)).map (dueAt w ws), y ≤ hi) → lo ∈ (List.range (ws.length + 1)).map (dueAt w ws) → (∀ y ∈ (List.range (ws.length + 1)).map (dueAt w ws), lo ≤ y) → Keep [] st st' → Q (.int (hi - lo)) st') : sem P k "span" [.ref bx] st Q X := by
  obtain ⟨fss, rest, hs⟩ := spA_first Z ha hb hab w ws
  refine span_ok Z.L h (spA_good ha hb hab hw hl).reads.wf (by omega) hs (spA_ev Z ha hb hab hw hl) fun rows hi lo st' lo' m1 m2 n1 n2 k1 => ?_
  rw [spA_rows ha hb hab hw hl lo'] at m1 m2 n1 n2
  have e1 : (dueRows w ws).map (·.2.2) = (List.range (ws.length + 1)).map (dueAt w ws) := by simp [dueRows, List.map_map, Function.comp_def]
  have e2 : (dueRows w ws).map (·.2.1) = (List.range (ws.length + 1)).map (dueAt w ws) := by simp [dueRows, List.map_map, Function.comp_def]
  rw [e1] at m1 m2
  rw [e2] at n1 n2
  exact q hi lo st' m1 m2 n1 n2 k1
end
end Mi
-- B31
namespace Mi
local macro_rules | `(tactic| decreasing_trivial_pre_omega) => `(tactic| repeat (first | (with_reducible refine w_seq ?_) | (with_reducible refine w_set ?_) | (with_reducible refine w_asg ?_) | (with_reducible refine w_par ?_) | (with_reducible refine w_setsub ?_) | (with_reducible refine w_iff ?_) | (with_reducible refine w_ret ?_) | (with_reducible refine w_expr ?_) | (with_reducible refine w_end ?_) | (with_reducible refine w_con ?_) | (with_reducible refine w_bin ?_) | (with_reducible refine w_neg ?_) | (with_reducible refine w_cmp ?_) | (with_reducible refine w_chn ?_) | (with_reducible refine w_and ?_) | (with_reducible refine w_or ?_) | (with_reducible refine w_not ?_) | (with_reducible refine w_ite ?_) | (with_reducible refine w_sub ?_) | (with_reducible refine w_sli ?_) | (with_reducible refine w_rev ?_) | (with_reducible refine w_fld ?_) | (with_reducible refine w_call ?_) | (with_reducible refine w_bmt ?_) | (with_reducible refine w_blt ?_) | (with_reducible refine w_isi ?_) | (with_reducible refine w_lst ?_) | (with_reducible refine w_tup ?_) | (with_reducible refine w_nil ?_) | (with_reducible refine w_arg ?_) | (with_reducible refine w_star ?_) | (with_reducible refine w_tr ?_) | (with_reducible refine o_add ?_) | (with_reducible refine o_sub ?_) | (with_reducible refine o_mod (by omega) ?_) | (with_reducible refine o_div (by omega) (by omega) ?_) | (with_reducible refine b_int ?_) | (with_reducible refine b_abs ?_) | (with_reducible refine b_max ?_) | (with_reducible refine b_min ?_) | (with_reducible refine c_lt ?_) | (with_reducible refine c_le ?_) | (with_reducible refine c_gt ?_) | (with_reducible refine c_ge ?_) | (with_reducible refine e_int ?_) | (with_reducible refine e_str ?_) | (with_reducible refine n_int ?_) | (with_reducible refine n_str ?_) | (with_reducible refine l_tup ?_) | (with_reducible refine l_lsv ?_) | (with_reducible refine w_mth ?_) | (with_reducible refine is_str ?_) | (with_reducible refine u_tup ?_) | (with_reducible refine l_new ?_) | (with_reducible refine isN_non ?_) | (with_reducible refine notN_non ?_) | (with_reducible refine isN_tup ?_) | (with_reducible refine notN_tup ?_) | (with_reducible refine w_for ?_) | (with_reducible refine w_whl ?_) | (with_reducible refine w_ev ?_) | (with_reducible refine w_keys ?_) | (with_reducible refine w_rng ?_) | (with_reducible refine it_tup ?_) | (with_reducible refine w_lc ?_) | (with_reducible refine w_dic ?_) | (with_reducible refine w_pc ?_) | (with_reducible refine w_pn ?_) | (with_reducible refine w_tg ?_) | (with_reducible refine w_ng ?_) | (with_reducible refine w_cn ?_) | (with_reducible refine w_cs ?_) | (with_reducible refine w_os ?_) | (with_reducible refine w_ov ?_) | ((with_reducible apply w_var); exact rfl) | ((with_reducible refine if_yes ?_ ?_); exact rfl) | ((with_reducible refine if_no ?_ ?_); exact rfl)))
local macro_rules | `(tactic| array_get_dec) => `(tactic| repeat (first | (with_reducible refine w_seq ?_) | (with_reducible refine w_set ?_) | (with_reducible refine w_asg ?_) | (with_reducible refine w_par ?_) | (with_reducible refine w_setsub ?_) | (with_reducible refine w_iff ?_) | (with_reducible refine w_ret ?_) | (with_reducible refine w_expr ?_) | (with_reducible refine w_end ?_) | (with_reducible refine w_con ?_) | (with_reducible refine w_bin ?_) | (with_reducible refine w_neg ?_) | (with_reducible refine w_cmp ?_) | (with_reducible refine w_chn ?_) | (with_reducible refine w_and ?_) | (with_reducible refine w_or ?_) | (with_reducible refine w_not ?_) | (with_reducible refine w_ite ?_) | (with_reducible refine w_sub ?_) | (with_reducible refine w_sli ?_) | (with_reducible refine w_rev ?_) | (with_reducible refine w_fld ?_) | (with_reducible refine w_call ?_) | (with_reducible refine w_bmt ?_) | (with_reducible refine w_blt ?_) | (with_reducible refine w_isi ?_) | (with_reducible refine w_lst ?_) | (with_reducible refine w_tup ?_) | (with_reducible refine w_nil ?_) | (with_reducible refine w_arg ?_) | (with_reducible refine w_star ?_) | (with_reducible refine w_tr ?_) | (with_reducible refine o_add ?_) | (with_reducible refine o_sub ?_) | (with_reducible refine o_mod (by omega) ?_) | (with_reducible refine o_div (by omega) (by omega) ?_) | (with_reducible refine b_int ?_) | (with_reducible refine b_abs ?_) | (with_reducible refine b_max ?_) | (with_reducible refine b_min ?_) | (with_reducible refine c_lt ?_) | (with_reducible refine c_le ?_) | (with_reducible refine c_gt ?_) | (with_reducible refine c_ge ?_) | (with_reducible refine e_int ?_) | (with_reducible refine e_str ?_) | (with_reducible refine n_int ?_) | (with_reducible refine n_str ?_) | (with_reducible refine l_tup ?_) | (with_reducible refine l_lsv ?_) | (with_reducible refine w_mth ?_) | (with_reducible refine is_str ?_) | (with_reducible refine u_tup ?_) | (with_reducible refine l_new ?_) | (with_reducible refine isN_non ?_) | (with_reducible refine notN_non ?_) | (with_reducible refine isN_tup ?_) | (with_reducible refine notN_tup ?_) | (with_reducible refine w_for ?_) | (with_reducible refine w_whl ?_) | (with_reducible refine w_ev ?_) | (with_reducible refine w_keys ?_) | (with_reducible refine w_rng ?_) | (with_reducible refine it_tup ?_) | (with_reducible refine w_dic ?_) | (with_reducible refine w_pc ?_) | (with_reducible refine w_pn ?_) | (with_reducible refine w_tg ?_) | (with_reducible refine w_ng ?_) | (with_reducible refine w_cn ?_) | (with_reducible refine w_cs ?_) | (with_reducible refine w_os ?_) | (with_reducible refine w_ov ?_) | ((with_reducible apply w_var); exact rfl) | ((with_reducible refine if_yes ?_ ?_); exact rfl) | ((with_reducible refine if_no ?_ ?_); exact rfl)))
theorem due_app {w : Nat} {ws : List Bool} {x : Bool} {i : Nat} (h : i ≤ ws.length) : dueAt w (ws ++ [x]) i = dueAt w ws i := by
  unfold dueAt
  rw [List.take_append_of_le_length h]
theorem due_snoc {w : Nat} {ws : List Bool} {x : Bool} : (List.range ((ws ++ [x]).length + 1)).map (dueAt w (ws ++ [x])) = (List.range (ws.length + 1)).map (dueAt w ws) ++ [dueAt w ws ws.length + if x then (w : Int) else -(w : Int)] := by
  rw [List.length_append, List.length_singleton, List.range_succ, List.map_append]
  congr 1
  · refine List.map_congr_left fun i hi => ?_
    rw [List.mem_range] at hi
    exact due_app (by omega)
  · rw [List.map_singleton, due_succ (x := x) (by simp), due_app (Nat.le_refl _)]
theorem w_tl {ns : List Nat} {vs : List MV} {σ : Env} {st : Sto} {a : Nat} {Q : Env → Prop} (ha : st[a]? = some (.lst vs)) (hl : vs.length = ns.length) (q : Q ((ns.zip vs).foldl (fun s p => s.set p.1 (some p.2)) σ)) : setTgS (.tup ns) (.ref a) σ st Q := ⟨vs, by simp [seqOf, ha], hl, q⟩
theorem ite_neg {P : Prog} {F : Phi} {σ : Env} {st : Sto} {Q : Post} {X : Xp} {x : Bool} {i : Nat} {w : Int} (hi : σ[i]? = some (some (.int w))) (h : Q (.int (if x then w else -w)) st) : if x = true then wpE P F (.var i) σ st Q X else wpE P F (.neg (.var i)) σ st Q X := by
  cases x
  · exact ⟨_, hi, w, rfl, h⟩
  · exact ⟨_, hi, h⟩
theorem wordT_inj (x : Bool) : (wordT x == tTAKE) = x := by cases x <;> rfl
section
variable {P : Prog} (Z : Law8 P) {a b : Tx} (ha : nmB a = true) (hb : nmB b = true) (hab : a ≠ b)
include Z ha hb hab
set_option maxHeartbeats 1000000 in
theorem srt_ok {k : Nat} (hk : 11 ≤ k) {p m : Nat} {st : Sto} {Q : Post} {X : Xp} (hp : Pot (m + 50) st p) (q : ∀ st', Pot m st' p → Keep [p] st st' → Q (.bl true) st') : sem P k "_law_are_straight_right" [.ref p, .str a, .str b] st Q X := by
  refine sem_go (by omega) Z.sr rfl ?_
  show wpSs P _ [_, _, _, _, _, _, _] _ [some (.ref p), some (.str a), some (.str b), none, none, none, none, none, none, none, none, none, none] st
  have plt : p < st.length := by obtain ⟨x, y, z, e, _⟩ := hp; exact (List.getElem?_eq_some_iff.mp e).1
  decreasing_trivial_pre_omega
  refine Z.T (m := m + 49) (by omega) hp (by omega) (by omega) fun d st1 hd hp1 k1 => ?_
  obtain ⟨w, hw, hwd⟩ : ∃ w : Nat, (1 ≤ w ∧ w ≤ 2) ∧ (1 : Int) + (d : Int) = (w : Int) := ⟨d + 1, by omega, by omega⟩
  refine o_add ?_
  rw [hwd]
  decreasing_trivial_pre_omega
  refine ⟨by simp [big], ?_⟩
  decreasing_trivial_pre_omega
  refine ⟨by simp [big], ?_⟩
  decreasing_trivial_pre_omega
  refine ⟨by simp [big], ?_⟩
  refine w_ts rfl ?_
  generalize hS : st1 ++ [MO.lst []] ++ [MO.lst [MV.int 0]] = S
  have kS : Keep [] st1 S := by rw [← hS]; exact (Keep.app _ _ _).trans (Keep.app _ _ _)
  have lw : (st1 ++ [MO.lst []]).length = st1.length + 1 := by simp
  have hW : S[st1.length]? = some (.lst []) := by rw [← hS]; exact get_app get_new
  have hD : S[st1.length + 1]? = some (.lst [.int 0]) := by rw [← hS, ← lw]; exact get_new
  rw [lw]
  show wpSs P _ _ _ [some (.ref p), some (.str a), some (.str b), none, none, none, none, some (.int w), some (.ref st1.length), some (.ref (st1.length + 1)), some (.int 0), none, none] S
  have pl1 : p < st1.length := by have := k1.le; omega
  have hpS : Pot (m + 49) S p := hp1.keep kS (by simp)
  decreasing_trivial_pre_omega
  refine ⟨by simp [big], ?_⟩
  decreasing_trivial_pre_omega
  refine of_ok Z.T Z.of (m := m + 48) (by omega) (hpS.keep (Keep.app [] _ _) (by simp)) get_new (by have := (List.getElem?_eq_some_iff.mp hD).1; omega) (by simp) (by simp) fun v st2 hv hp2 k2 => ?_
  obtain ⟨n, rfl, hn⟩ : ∃ n : Nat, v = .int n ∧ n ≤ 39 := by
    simp at hv
    rcases hv with rfl | rfl | rfl | rfl
    · exact ⟨1, rfl, by omega⟩
    · exact ⟨5, rfl, by omega⟩
    · exact ⟨12, rfl, by omega⟩
    · exact ⟨39, rfl, by omega⟩
  refine ⟨n, rfl, by omega, by omega, ?_⟩
  have hW2 := k2.at_ _ _ (by simp; omega) (get_app (t := [MO.lst [MV.int 1, .int 5, .int 12, .int 39]]) hW)
  have hD2 := k2.at_ _ _ (by simp; omega) (get_app (t := [MO.lst [MV.int 1, .int 5, .int 12, .int 39]]) hD)
  have k12 : Keep [p] st st2 := (k1.trans (kS.mono (by simp))).trans ((Keep.app _ _ _).trans k2)
  have l1 := k1.le
  refine loop_go (fun pre σ st' => ∃ x3 ws, ws.length = pre.length ∧ pre.length ≤ n ∧ σ = [some (.ref p), some (.str a), some (.str b), x3, none, none, none, some (.int w), some (.ref st1.length), some (.ref (st1.length + 1)), some (.int (dueAt w ws ws.length)), none, none] ∧ Keep [p] st st' ∧
    st'[st1.length]? = some (.lst ((ws.map wordT).map .str)) ∧ st'[st1.length + 1]? = some (.lst (((List.range (ws.length + 1)).map (dueAt w ws)).map .int)) ∧ Pot (m + (48 - pre.length)) st' p) ?_ (fun _ _ _ _ => True.intro) ?_ ?_
  · exact ⟨none, [], rfl, Nat.zero_le _, rfl, k12, hW2, hD2, hp2⟩
  · rintro pre xx r σ st3 kk e ⟨x3, ws, hws, hpn, rfl, k3, hW3, hD3, hp3⟩ hkk
    have hlt : pre.length < n := by
      have := congrArg List.length (show ((List.range (n : Int).toNat).map fun (i : Nat) => MV.int (i : Int)) = pre ++ xx :: r from e)
      simp at this
      omega
    have w3l := (List.getElem?_eq_some_iff.mp hW3).1
    have d3l := (List.getElem?_eq_some_iff.mp hD3).1
    decreasing_trivial_pre_omega
    refine ⟨bt_lst hW3 rfl, ?_⟩
    decreasing_trivial_pre_omega
    refine ⟨by simp [big], ?_⟩
    decreasing_trivial_pre_omega
    have hp3' : Pot (m + (48 - (pre.length + 1)) + 1) st3 p := by rw [show m + (48 - (pre.length + 1)) + 1 = m + (48 - pre.length) by omega]; exact hp3
    refine of_ok Z.T Z.of (m := m + (48 - (pre.length + 1))) (by omega) (hp3'.keep (Keep.app [] _ _) (by simp)) get_new (by omega) (by simp) (by simp) fun v st4 hv hp4 k4 => ?_
    obtain ⟨x, rfl⟩ : ∃ x : Bool, v = .str (wordT x) := by
      simp at hv
      rcases hv with rfl | rfl
      · exact ⟨true, rfl⟩
      · exact ⟨false, rfl⟩
    have k34 : Keep [p] st3 st4 := (Keep.app _ _ _).trans k4
    have hW4 := k34.at_ _ _ (by simp; omega) hW3
    have hD4 := k34.at_ _ _ (by simp; omega) hD3
    decreasing_trivial_pre_omega
    refine m_app hW4 (by simp [big]; omega) ?_
    decreasing_trivial_pre_omega
    have hW5 : (st4.set st1.length (.lst ((ws.map wordT).map MV.str ++ [.str (wordT x)])))[st1.length]? = some (.lst ((ws.map wordT).map MV.str ++ [.str (wordT x)])) := get_set hW4
    refine g_lst hW5 at_last ?_
    decreasing_trivial_pre_omega
    rw [show (wordT x == [116, 97, 107, 101]) = x from wordT_inj x]
    refine ite_neg (i := 7) rfl ?_
    decreasing_trivial_pre_omega
    have hD5 : (st4.set st1.length (.lst ((ws.map wordT).map MV.str ++ [.str (wordT x)])))[st1.length + 1]? = some (.lst (((List.range (ws.length + 1)).map (dueAt w ws)).map .int)) := get_other (by omega) hD4
    refine ⟨bt_lst hD5 rfl, ?_⟩
    decreasing_trivial_pre_omega
    refine m_app hD5 (by simp [big]; omega) ?_
    decreasing_trivial_pre_omega
    refine hkk _ _ ⟨some xx, ws ++ [x], by simp [hws], by simp; omega, ?_, ?_, ?_, ?_, ?_⟩
    · rw [show dueAt w (ws ++ [x]) (ws ++ [x]).length = dueAt w ws ws.length + if x then (w : Int) else -(w : Int) by
        rw [List.length_append, List.length_singleton, due_succ (x := x) (by simp), due_app (Nat.le_refl _)]]
      rfl
    · exact ((k3.trans k34).new _ (by omega)).new _ (by omega)
    · rw [get_other (by omega) hW5]
      simp
    · rw [get_set hD5, due_snoc]
      simp
    · rw [show (pre ++ [xx]).length = pre.length + 1 by simp]
      exact (hp4.keep (Keep.set (W := [st1.length]) _ (by simp)) (by simp; omega)).keep (Keep.set (W := [st1.length + 1]) _ (by simp)) (by simp; omega)
  · rintro σ st3 ⟨x3, ws, hws, hpn, rfl, k3, hW3, hD3, hp3⟩
    have hwl : ws.length ≤ 39 := by
      rw [hws]
      simp
      omega
    decreasing_trivial_pre_omega
    refine straight_ok Z.B Z.pl Z.st ha hb hab hw hwl (by omega) hW3 fun bx ds dw st4 b4 k4 g1 g2 g3 => ?_
    have hD4 := k4.at_ _ _ (by simp) hD3
    decreasing_trivial_pre_omega
    refine w_enu ?_
    decreasing_trivial_pre_omega
    refine ⟨_, _, rfl, hD4, ?_⟩
    refine ⟨by rw [enum_len]; simp [big]; omega, ?_⟩
    refine loop_go (fun pre acc st' => st' = st4 ∧ acc = ((dueRows w ws).take pre.length).map lrV) ⟨rfl, rfl⟩ (fun _ _ _ z => by rw [z.1]; exact hD4) ?_ ?_
    · rintro pre x r acc st' kk e ⟨rfl, rfl⟩ hkk
      obtain ⟨y, hy, rfl⟩ := enum_at e
      rw [List.map_map, List.getElem?_map] at hy
      cases hx : (List.range (ws.length + 1))[pre.length]? with
      | none => rw [hx] at hy; cases hy
      | some z =>
        rw [hx] at hy
        cases hy
        obtain ⟨z1, z2⟩ := List.getElem?_eq_some_iff.mp hx
        rw [List.getElem_range] at z2
        subst z2
        rw [List.length_range] at z1
        refine w_tt rfl ?_
        decreasing_trivial_pre_omega
        rw [show ((0 + pre.length : Nat) : Int) = ((pre.length : Nat) : Int) by omega]
        refine place_ok Z.pl (by omega) (by omega) ?_
        decreasing_trivial_pre_omega
        refine ⟨by simp [big], ?_⟩
        refine hkk _ _ ⟨rfl, ?_⟩
        have hd : (dueRows w ws)[pre.length]? = some (Mi.pl pre.length, dueAt w ws pre.length, dueAt w ws pre.length) := by
          unfold dueRows
          rw [List.getElem?_map, hx]
          rfl
        rw [List.length_append, List.length_singleton, take_succ_at hd, List.map_append]
        rfl
    rintro acc st5 ⟨rfl, rfl⟩
    have lr : (dueRows w ws).take (enumFrom 0 (((List.range (ws.length + 1)).map (dueAt w ws)).map MV.int)).length = dueRows w ws := List.take_of_length_le (by rw [enum_len]; simp [dueRows])
    rw [lr]
    decreasing_trivial_pre_omega
    refine u_lst get_new ?_
    decreasing_trivial_pre_omega
    have b5 := b4.keep (Keep.app [] _ [MO.lst ((dueRows w ws).map lrV)]) (by simp) (by simp) (by simp)
    refine spA_loads Z ha hb hab (by omega) hw hwl b5 fun st6 k6 => ?_
    have sh := dueRows_shy hw.2 hwl
    decreasing_trivial_pre_omega
    refine repr_rows Z.R sh ?_
    decreasing_trivial_pre_omega
    refine repr_rows Z.R sh ?_
    decreasing_trivial_pre_omega
    rw [show (P.rp (.tup ((dueRows w ws).map lrD)) == P.rp (.tup ((dueRows w ws).map lrD))) = true by simp]
    refine if_no rfl ?_
    have b6 := b5.keep k6 (by simp) (by simp) (by simp)
    have hD6 := k6.at_ _ _ (by simp) (get_app (t := [MO.lst ((dueRows w ws).map lrV)]) hD4)
    decreasing_trivial_pre_omega
    refine spA_span Z ha hb hab (by omega) hw hwl b6 fun hi lo st7 m1 m2 n1 n2 k7 => ?_
    have hD7 := k7.at_ _ _ (by simp) hD6
    decreasing_trivial_pre_omega
    refine b_maxl hD7 m1 m2 ?_
    decreasing_trivial_pre_omega
    refine b_minl hD7 n1 n2 ?_
    decreasing_trivial_pre_omega
    rw [show (hi - lo == hi - lo) = true by simp]
    decreasing_trivial_pre_omega
    refine ⟨by simp [big], ?_⟩
    decreasing_trivial_pre_omega
    refine o_mull get_new (by decide) (by decide) (by simp) ?_
    decreasing_trivial_pre_omega
    have hr39 : (List.replicate (39 : Int).toNat [MV.str [116, 97, 107, 101]]).flatten = ((List.replicate 39 true).map wordT).map .str := by rfl
    rw [hr39]
    refine straight_ok Z.B Z.pl Z.st ha hb hab (w := 2) (ws := List.replicate 39 true) (by omega) (by simp) (by omega) get_new fun bx2 ds2 dw2 st8 b8 k8 g4 g5 g6 => ?_
    decreasing_trivial_pre_omega
    refine spA_span Z ha hb hab (by omega) (by omega) (by simp) b8 fun hi2 lo2 st9 m3 m4 n3 n4 k9 => ?_
    have hv : (List.range ((List.replicate 39 true).length + 1)).map (dueAt 2 (List.replicate 39 true)) = (List.range 40).map fun (i : Nat) => 2 * (i : Int) := by decide
    rw [hv] at m3 m4 n3 n4
    have e1 : hi2 = 78 := by
      have a1 := m4 78 (by decide)
      obtain ⟨i, hi, e⟩ := List.mem_map.mp m3
      rw [List.mem_range] at hi
      omega
    have e2 : lo2 = 0 := by
      have a1 := n4 0 (by decide)
      obtain ⟨i, hi, e⟩ := List.mem_map.mp n3
      omega
    subst e1 e2
    decreasing_trivial_pre_omega
    have b9 := b8.keep k9 (by simp) (by simp) (by simp)
    refine spA_loads Z ha hb hab (by omega) (by omega) (by simp) b9 fun st10 k10 => ?_
    decreasing_trivial_pre_omega
    have hlast : (dueRows 2 (List.replicate 39 true)) = (List.range 39).map (fun i => ((Mi.pl i, dueAt 2 (List.replicate 39 true) i, dueAt 2 (List.replicate 39 true) i) : Lrow)) ++ [(Mi.pl 39, 78, 78)] := by
      unfold dueRows
      rw [List.length_replicate, List.range_succ, List.map_append]
      congr 1
    rw [hlast, List.map_append, List.map_singleton]
    refine g_tup at_last ?_
    decreasing_trivial_pre_omega
    refine place_ok Z.pl (i := 39) (by omega) (by omega) ?_
    decreasing_trivial_pre_omega
    refine ⟨by simp [big], ?_⟩
    refine .inl ⟨lrD (Mi.pl 39, 78, 78), lrD (Mi.pl 39, 78, 78), rfl, rfl, .inr ⟨rfl, rfl⟩, ?_⟩
    rw [show PD.eqv (lrD (Mi.pl 39, 78, 78)) (lrD (Mi.pl 39, 78, 78)) = true by decide]
    have kA := (((((k4.trans (Keep.app _ _ [MO.lst ((dueRows w ws).map lrV)])).trans k6).trans k7).trans (Keep.app _ _ [MO.lst [MV.str [116, 97, 107, 101]]])).trans (Keep.app _ _ [MO.lst (((List.replicate 39 true).map wordT).map .str)])).trans ((k8.trans k9).trans k10)
    refine q _ ((hp3.less (by omega)).keep kA (by simp)) (k3.trans (kA.mono (by simp)))
end
end Mi
-- B32
namespace Mi
local macro_rules | `(tactic| decreasing_trivial_pre_omega) => `(tactic| repeat (first | (with_reducible refine w_seq ?_) | (with_reducible refine w_set ?_) | (with_reducible refine w_asg ?_) | (with_reducible refine w_par ?_) | (with_reducible refine w_setsub ?_) | (with_reducible refine w_iff ?_) | (with_reducible refine w_ret ?_) | (with_reducible refine w_expr ?_) | (with_reducible refine w_end ?_) | (with_reducible refine w_con ?_) | (with_reducible refine w_bin ?_) | (with_reducible refine w_neg ?_) | (with_reducible refine w_cmp ?_) | (with_reducible refine w_chn ?_) | (with_reducible refine w_and ?_) | (with_reducible refine w_or ?_) | (with_reducible refine w_not ?_) | (with_reducible refine w_ite ?_) | (with_reducible refine w_sub ?_) | (with_reducible refine w_sli ?_) | (with_reducible refine w_rev ?_) | (with_reducible refine w_fld ?_) | (with_reducible refine w_call ?_) | (with_reducible refine w_bmt ?_) | (with_reducible refine w_blt ?_) | (with_reducible refine w_isi ?_) | (with_reducible refine w_lst ?_) | (with_reducible refine w_tup ?_) | (with_reducible refine w_nil ?_) | (with_reducible refine w_arg ?_) | (with_reducible refine w_star ?_) | (with_reducible refine w_tr ?_) | (with_reducible refine o_add ?_) | (with_reducible refine o_sub ?_) | (with_reducible refine o_mod (by omega) ?_) | (with_reducible refine o_div (by omega) (by omega) ?_) | (with_reducible refine b_int ?_) | (with_reducible refine b_abs ?_) | (with_reducible refine b_max ?_) | (with_reducible refine b_min ?_) | (with_reducible refine c_lt ?_) | (with_reducible refine c_le ?_) | (with_reducible refine c_gt ?_) | (with_reducible refine c_ge ?_) | (with_reducible refine e_int ?_) | (with_reducible refine e_str ?_) | (with_reducible refine n_int ?_) | (with_reducible refine n_str ?_) | (with_reducible refine l_tup ?_) | (with_reducible refine l_lsv ?_) | (with_reducible refine w_mth ?_) | (with_reducible refine is_str ?_) | (with_reducible refine u_tup ?_) | (with_reducible refine l_new ?_) | (with_reducible refine isN_non ?_) | (with_reducible refine notN_non ?_) | (with_reducible refine isN_tup ?_) | (with_reducible refine notN_tup ?_) | (with_reducible refine w_for ?_) | (with_reducible refine w_whl ?_) | (with_reducible refine w_ev ?_) | (with_reducible refine w_keys ?_) | (with_reducible refine w_rng ?_) | (with_reducible refine it_tup ?_) | (with_reducible refine w_lc ?_) | (with_reducible refine w_dic ?_) | (with_reducible refine w_pc ?_) | (with_reducible refine w_pn ?_) | (with_reducible refine w_tg ?_) | (with_reducible refine w_ng ?_) | (with_reducible refine w_cn ?_) | (with_reducible refine w_cs ?_) | (with_reducible refine w_os ?_) | (with_reducible refine w_ov ?_) | ((with_reducible apply w_var); exact rfl) | ((with_reducible refine if_yes ?_ ?_); exact rfl) | ((with_reducible refine if_no ?_ ?_); exact rfl)))
local macro_rules | `(tactic| array_get_dec) => `(tactic| repeat (first | (with_reducible refine w_seq ?_) | (with_reducible refine w_set ?_) | (with_reducible refine w_asg ?_) | (with_reducible refine w_par ?_) | (with_reducible refine w_setsub ?_) | (with_reducible refine w_iff ?_) | (with_reducible refine w_ret ?_) | (with_reducible refine w_expr ?_) | (with_reducible refine w_end ?_) | (with_reducible refine w_con ?_) | (with_reducible refine w_bin ?_) | (with_reducible refine w_neg ?_) | (with_reducible refine w_cmp ?_) | (with_reducible refine w_chn ?_) | (with_reducible refine w_and ?_) | (with_reducible refine w_or ?_) | (with_reducible refine w_not ?_) | (with_reducible refine w_ite ?_) | (with_reducible refine w_sub ?_) | (with_reducible refine w_sli ?_) | (with_reducible refine w_rev ?_) | (with_reducible refine w_fld ?_) | (with_reducible refine w_call ?_) | (with_reducible refine w_bmt ?_) | (with_reducible refine w_blt ?_) | (with_reducible refine w_isi ?_) | (with_reducible refine w_lst ?_) | (with_reducible refine w_tup ?_) | (with_reducible refine w_nil ?_) | (with_reducible refine w_arg ?_) | (with_reducible refine w_star ?_) | (with_reducible refine w_tr ?_) | (with_reducible refine o_add ?_) | (with_reducible refine o_sub ?_) | (with_reducible refine o_mod (by omega) ?_) | (with_reducible refine o_div (by omega) (by omega) ?_) | (with_reducible refine b_int ?_) | (with_reducible refine b_abs ?_) | (with_reducible refine b_max ?_) | (with_reducible refine b_min ?_) | (with_reducible refine c_lt ?_) | (with_reducible refine c_le ?_) | (with_reducible refine c_gt ?_) | (with_reducible refine c_ge ?_) | (with_reducible refine e_int ?_) | (with_reducible refine e_str ?_) | (with_reducible refine n_int ?_) | (with_reducible refine n_str ?_) | (with_reducible refine l_tup ?_) | (with_reducible refine l_lsv ?_) | (with_reducible refine w_mth ?_) | (with_reducible refine is_str ?_) | (with_reducible refine u_tup ?_) | (with_reducible refine l_new ?_) | (with_reducible refine isN_non ?_) | (with_reducible refine notN_non ?_) | (with_reducible refine isN_tup ?_) | (with_reducible refine notN_tup ?_) | (with_reducible refine w_for ?_) | (with_reducible refine w_whl ?_) | (with_reducible refine w_ev ?_) | (with_reducible refine w_keys ?_) | (with_reducible refine w_rng ?_) | (with_reducible refine it_tup ?_) | (with_reducible refine w_dic ?_) | (with_reducible refine w_pc ?_) | (with_reducible refine w_pn ?_) | (with_reducible refine w_tg ?_) | (with_reducible refine w_ng ?_) | (with_reducible refine w_cn ?_) | (with_reducible refine w_cs ?_) | (with_reducible refine w_os ?_) | (with_reducible refine w_ov ?_) | ((with_reducible apply w_var); exact rfl) | ((with_reducible refine if_yes ?_ ?_); exact rfl) | ((with_reducible refine if_no ?_ ?_); exact rfl)))
def d_ways : IDef := ⟨3, 8, [
    .asg (.name 3) (.bin .add (.con (.int 1)) (.call "_law_take" (.cons (.var 0) (.cons (.con (.int 9)) .nil)))),
    .asg (.name 4) (.lst (.cons (.bin .add (.bin .add (.con (.str [105, 110, 32])) (.var 1)) (.con (.str [32, 49, 32, 116]))) (.cons (.bin .add (.bin .add (.con (.str [111, 117, 116, 32])) (.var 2)) (.con (.str [32, 49, 32, 116]))) (.cons (.con (.str [97, 116, 32, 115])) (.cons (.con (.str [116, 117, 114, 110, 32, 117])) (.cons (.bin .add (.bin .add (.bin .add (.con (.str [116, 97, 107, 101, 32])) (.var 1)) (.con (.str [32, 116, 32]))) (.call "_law_place" (.cons (.con (.int 1)) .nil))) .nil)))))),
    .for_ (.name 5) (.rng2 (.con (.int 1)) (.bin .add (.var 3) (.con (.int 1)))) [.expr (.bmt (.var 4) .extend (.cons (.lst (.cons (.bin .add (.con (.str [97, 116, 32])) (.call "_law_place" (.cons (.var 5) .nil))) .nil)) .nil)), .expr (.bmt (.var 4) .append (.cons (.ite (.cmp .lt (.var 5) (.var 3)) (.bin .add (.bin .add (.bin .add (.con (.str [116, 97, 107, 101, 32])) (.var 1)) (.con (.str [32, 116, 32]))) (.call "_law_place" (.cons (.bin .add (.var 5) (.con (.int 1))) .nil))) (.con (.str [116, 117, 114, 110, 32, 117]))) .nil))],
    .expr (.bmt (.var 4) .extend (.cons (.lst (.cons (.con (.str [97, 116, 32, 117])) (.cons (.bin .add (.bin .add (.con (.str [116, 97, 107, 101, 32])) (.var 1)) (.con (.str [32, 116, 32, 118]))) (.cons (.con (.str [97, 116, 32, 118])) (.cons (.bin .add (.bin .add (.con (.str [112, 117, 116, 32])) (.var 2)) (.con (.str [32, 116, 32, 117]))) (.cons (.con (.str [97, 116, 32, 102, 97, 114])) (.cons (.bin .add (.bin .add (.con (.str [116, 97, 107, 101, 32])) (.var 1)) (.con (.str [32, 116, 32, 102, 97, 114]))) .nil))))))) .nil)),
    .par [6, 7] (.cons (.new "Box" (.cons (.bmt (.con (.str [10])) .join (.cons (.var 4) .nil)) .nil)) (.cons (.lst (.cons (.tup (.cons (.con (.str [115])) (.cons (.con (.int 0)) (.cons (.con (.int 0)) .nil)))) .nil)) .nil)),
    .expr (.bmt (.var 7) .extend (.cons (.lc (.tup (.cons (.call "_law_place" (.cons (.var 5) .nil)) (.cons (.var 5) (.cons (.var 5) .nil)))) (.name 5) (.rng2 (.con (.int 1)) (.bin .add (.var 3) (.con (.int 1)))) .non [5]) .nil)),
    .expr (.bmt (.var 7) .extend (.cons (.lst (.cons (.tup (.cons (.con (.str [117])) (.cons (.con (.int 0)) (.cons (.var 3) .nil)))) (.cons (.tup (.cons (.con (.str [118])) (.cons (.con (.int 1)) (.cons (.bin .add (.var 3) (.con (.int 1))) .nil)))) .nil))) .nil)),
    .ret (.and (.cmp .eq (.blt .repr (.cons (.call "loads" (.cons (.var 6) .nil)) .nil)) (.blt .repr (.cons (.blt .tuple (.cons (.var 7) .nil)) .nil))) (.cmp .eq (.blt .repr (.cons (.call "span" (.cons (.var 6) .nil)) .nil)) (.blt .repr (.cons (.bin .add (.var 3) (.con (.int 1))) .nil))))]⟩
def d_right8 : IDef := ⟨1, 3, [
    .asg (.tup [1, 2]) (.call "_law_some" (.cons (.var 0) (.cons (.lst (.cons (.con (.str [109])) (.cons (.con (.str [110])) (.cons (.con (.str [105, 110])) (.cons (.con (.str [111, 117, 116])) (.cons (.con (.str [97, 116])) (.cons (.con (.str [116, 97, 107, 101])) (.cons (.con (.str [97])) (.cons (.con (.str [122, 122, 122, 122, 122, 122, 122, 122])) .nil))))))))) (.cons (.con (.int 2)) .nil)))),
    .ret (.and (.call "_law_are_straight_right" (.cons (.var 0) (.cons (.var 1) (.cons (.var 2) .nil)))) (.call "_law_are_ways_right" (.cons (.var 0) (.cons (.var 1) (.cons (.var 2) .nil)))))]⟩
theorem w_rng2 {P : Prog} {F : Phi} {σ : Env} {st : Sto} {X : Xp} {a b : IE} {R : It → Sto → (Sto → (Sto → Prop) → Prop) → Prop} (h : wpE P F a σ st (fun v st1 => wpE P F b σ st1 (fun w st2 => ∃ n m : Int, v = .int n ∧ w = .int m ∧ -1000000 ≤ n ∧ n ≤ 1000000 ∧ -1000000 ≤ m ∧ m ≤ 1000000 ∧
      R ⟨(List.range (m - n).toNat).map fun (i : Nat) => .int (n + (i : Int)), fun _ => True⟩ st2 fun st3 k => k st3) X) X) : wpI P F (.rng2 a b) σ st R X := h
theorem newbox_at {P : Prog} (B : HasMake P) {N : Nat} {rk : Tx → Nat} {k : Nat} (hk : N + 8 ≤ k) {text : Tx} {R : Rs} {st : Sto} {Q : Sto → Prop} {X : Xp} (rd : Reads text R) (ev : Even (R.box text) rk N)
    (q : ∀ ds dw st', BoxAt st' st.length ds dw (R.box text) → Keep [] st st' → st.length ≤ ds → st.length ≤ dw → Q st') :
    ∃ q', P.mt "Box" "__init__" = some q' ∧ sem P k q' [.ref st.length, .str text] (st ++ [.ins "Box" []]) (fun v st2 => v = .non ∧ Q st2) X := by
  refine ⟨_, B.mbi, box_ok B hk get_new rd ev fun ds dw st' b k1 h1 h2 => ⟨rfl, ?_⟩⟩
  simp at h1 h2
  refine q ds dw st' b ?_ (by omega) (by omega)
  exact ⟨by have := k1.le; simp at this; omega, fun c o _ hc => k1.at_ _ _ (by have := (List.getElem?_eq_some_iff.mp hc).1; simp; omega) (get_app hc)⟩
/-- the rows of the ways, joined -/
def jn (r : List Tx) : Tx := joinBy [32] r
def rw0 (a b : Tx) : List Tx := [jn (lnR tIN (a, 1, [tT])), jn (lnR tOUT (b, 1, [tT])), jn [tAT, sW], jn [tTURN, uW], jn [tTAKE, a, tT, pl 1]]
def rwP (a : Tx) (m j : Nat) : List Tx := [jn [tAT, pl (j + 1)], jn (wst a m (j + 1))]
def rw1 (a b : Tx) : List Tx := [jn [tAT, uW], jn [tTAKE, a, tT, vW], jn [tAT, vW], jn [tPUT, b, tT, uW], jn [tAT, farW], jn [tTAKE, a, tT, farW]]
theorem spW_rowsj (a b : Tx) (m : Nat) : (spW a b m).rows.map (joinBy [32]) = rw0 a b ++ (List.range m).flatMap (rwP a m) ++ rw1 a b := by
  unfold Spec.rows Spec.stepRows
  simp only [spW, List.map_append, List.map_cons, List.map_nil, List.flatMap_cons, List.flatMap_append, List.flatMap_nil, List.append_nil, List.cons_append, List.nil_append, List.flatMap_map, List.map_flatMap, rw0, rw1, List.append_assoc]
  rfl
theorem dueW_shy {m : Nat} (hm : m ≤ 9) : Shy (dueW m) := by
  refine ⟨fun r hr => ?_, fun r hr => ?_, by simp [dueW]; omega⟩
  · simp only [dueW, List.mem_cons, List.mem_append, List.mem_map, List.mem_range, List.not_mem_nil, or_false] at hr
    rcases hr with rfl | ⟨j, hj, rfl⟩ | rfl | rfl
    · exact ⟨nm_ok (w := sW) (by decide), by decide⟩
    · exact ⟨nm_ok (pl_nm (by omega)), by simp [pl_len]⟩
    · exact ⟨nm_ok (w := uW) (by decide), by simp [uW]⟩
    · exact ⟨nm_ok (w := vW) (by decide), by simp [vW]⟩
  · simp only [dueW, List.mem_cons, List.mem_append, List.mem_map, List.mem_range, List.not_mem_nil, or_false] at hr
    rcases hr with rfl | ⟨j, hj, rfl⟩ | rfl | rfl
    · exact ⟨by decide, by decide⟩
    · exact ⟨by simp only; omega, by simp only; omega⟩
    · exact ⟨by simp, by simp only; omega⟩
    · exact ⟨by simp, by simp only; omega⟩
structure Law8b (P : Prog) : Prop extends Law8 P where
  wy : P.df "_law_are_ways_right" = some d_ways
  rt : P.df "_law_right" = some d_right8
section
variable {P : Prog} (Z : Law8b P) {a b : Tx} (ha : nmB a = true) (hb : nmB b = true) (hab : a ≠ b)
include Z ha hb hab
set_option maxHeartbeats 1000000 in
theorem ways_ok {k : Nat} (hk : 11 ≤ k) {p m : Nat} {st : Sto} {Q : Post} {X : Xp} (hp : Pot (m + 1) st p) (q : ∀ st', Pot m st' p → Keep [p] st st' → Q (.bl true) st') : sem P k "_law_are_ways_right" [.ref p, .str a, .str b] st Q X := by
  refine sem_go (by omega) Z.wy rfl ?_
  show wpSs P _ [_, _, _, _, _, _, _, _] _ [some (.ref p), some (.str a), some (.str b), none, none, none, none, none] st
  have plt : p < st.length := by obtain ⟨x, y, z, e, _⟩ := hp; exact (List.getElem?_eq_some_iff.mp e).1
  obtain ⟨la1, la2⟩ := nm_len ha
  obtain ⟨lb1, lb2⟩ := nm_len hb
  decreasing_trivial_pre_omega
  refine Z.T (m := m) (by omega) hp (by omega) (by omega) fun d st1 hd hp1 k1 => ?_
  obtain ⟨n, hn, hnd⟩ : ∃ n : Nat, (1 ≤ n ∧ n ≤ 9) ∧ (1 : Int) + (d : Int) = (n : Int) := ⟨d + 1, by omega, by omega⟩
  refine o_add ?_
  rw [hnd]
  have l1 := k1.le
  decreasing_trivial_pre_omega
  refine o_adds (by simp [big]; omega) ?_
  decreasing_trivial_pre_omega
  refine o_adds (by simp [big]; omega) ?_
  decreasing_trivial_pre_omega
  refine o_adds (by simp [big]; omega) ?_
  decreasing_trivial_pre_omega
  refine o_adds (by simp [big]; omega) ?_
  decreasing_trivial_pre_omega
  refine o_adds (by simp [big]; omega) ?_
  decreasing_trivial_pre_omega
  refine o_adds (by simp [big]; omega) ?_
  decreasing_trivial_pre_omega
  refine place_ok Z.pl (i := 1) (by omega) (by omega) ?_
  refine o_adds (by simp [big, pl]; omega) ?_
  decreasing_trivial_pre_omega
  refine ⟨by simp [big], ?_⟩
  have e0 : [MV.str ([105, 110, 32] ++ a ++ [32, 49, 32, 116]), MV.str ([111, 117, 116, 32] ++ b ++ [32, 49, 32, 116]), .str [97, 116, 32, 115], .str [116, 117, 114, 110, 32, 117], .str ([116, 97, 107, 101, 32] ++ a ++ [32, 116, 32] ++ Mi.pl 1)] = (rw0 a b).map .str := by
    simp [rw0, jn, lnR, joinBy, tIN, tOUT, tT, tAT, sW, uW, tTURN, tTAKE]
  rw [e0]
  decreasing_trivial_pre_omega
  refine w_rng2 ?_
  decreasing_trivial_pre_omega
  refine ⟨1, (n : Int) + 1, rfl, rfl, by omega, by omega, by omega, by omega, ?_⟩
  have hrg : ((n : Int) + 1 - 1).toNat = n := by omega
  rw [hrg]
  have hfl : ∀ i, ((List.range i).flatMap (rwP a n)).length = 2 * i := by
    intro i
    induction i with
    | zero => rfl
    | succ i ih => rw [List.range_succ, List.flatMap_append, List.length_append, ih]; simp [rwP]; omega
  have hlen : ∀ i, (joinBy [32] (wst a n i)).length ≤ 45 := fun i => by
    refine row_len ?_ ?_
    · unfold wst; split <;> simp
    · unfold wst
      split
      · simp [tTAKE, tT, Mi.pl]; omega
      · simp [tTURN, uW]
  refine loop_go (fun pre σ st' => ∃ x5, pre.length ≤ n ∧ σ = [some (.ref p), some (.str a), some (.str b), some (.int n), some (.ref st1.length), x5, none, none] ∧ Keep [] st1 st' ∧ st'[st1.length]? = some (.lst ((rw0 a b ++ (List.range pre.length).flatMap (rwP a n)).map .str))) ?_ (fun _ _ _ _ => True.intro) ?_ ?_
  · exact ⟨none, Nat.zero_le _, rfl, Keep.app _ _ _, by rw [get_new]; simp⟩
  · rintro pre xx rr σ st' kk e ⟨x5, hpn, rfl, k2, h2⟩ hkk
    obtain ⟨j, hj, rfl⟩ := item_at (show ((List.range n).map fun (i : Nat) => MV.int (1 + (i : Int))) = pre ++ xx :: rr from e)
    obtain ⟨z1, z2⟩ := List.getElem?_eq_some_iff.mp hj
    rw [List.getElem_range] at z2
    subst z2
    rw [List.length_range] at z1
    rw [show (1 : Int) + ((pre.length : Nat) : Int) = ((pre.length + 1 : Nat) : Int) by omega]
    decreasing_trivial_pre_omega
    refine ⟨bt_lst h2 rfl, ?_⟩
    decreasing_trivial_pre_omega
    refine place_ok Z.pl (by omega) (by omega) ?_
    refine o_adds (by simp [big, Mi.pl]) ?_
    decreasing_trivial_pre_omega
    refine ⟨by simp [big], ?_⟩
    decreasing_trivial_pre_omega
    have hll := hfl pre.length
    refine m_ext (get_app h2) get_new ?_ ?_
    · simp only [List.length_map, List.length_append, hll]
      simp [rw0, big]; omega
    decreasing_trivial_pre_omega
    have h3 := get_set (o' := .lst ((rw0 a b ++ (List.range pre.length).flatMap (rwP a n)).map MV.str ++ [.str ([97, 116, 32] ++ Mi.pl (pre.length + 1))])) (get_app (t := [MO.lst [MV.str ([97, 116, 32] ++ Mi.pl (pre.length + 1))]]) h2)
    refine ⟨bt_lst h3 rfl, ?_⟩
    have fin : ∀ y : Tx, y = jn (wst a n (pre.length + 1)) → ∀ S : Sto, S = (st' ++ [MO.lst [MV.str ([97, 116, 32] ++ Mi.pl (pre.length + 1))]]).set st1.length (.lst ((rw0 a b ++ (List.range pre.length).flatMap (rwP a n)).map MV.str ++ [.str ([97, 116, 32] ++ Mi.pl (pre.length + 1))])) →
        opBmt .append (.ref st1.length) [.str y] S fun x st1_1 => kk [some (.ref p), some (.str a), some (.str b), some (.int n), some (.ref st1.length), some (.int ((pre.length + 1 : Nat) : Int)), none, none] st1_1 := by
      rintro y rfl S rfl
      refine m_app h3 ?_ ?_
      · simp only [List.length_map, List.length_append, hll]
        simp [rw0, big]; omega
      refine hkk _ _ ⟨_, by simp; omega, rfl, (((k2.trans (Keep.app _ _ _)).new _ (Nat.le_refl _)).new _ (Nat.le_refl _)), ?_⟩
      rw [get_set h3]
      rw [List.length_append, List.length_singleton, List.range_succ, List.flatMap_append]
      simp [rwP, jn, joinBy, tAT]
    by_cases hc : pre.length + 1 < n
    · decreasing_trivial_pre_omega
      rw [decide_eq_true (show ((pre.length + 1 : Nat) : Int) < (n : Int) by omega)]
      refine if_yes rfl ?_
      decreasing_trivial_pre_omega
      refine o_adds (by simp [big]; omega) ?_
      decreasing_trivial_pre_omega
      refine o_adds (by simp [big]; omega) ?_
      decreasing_trivial_pre_omega
      rw [show ((pre.length + 1 : Nat) : Int) + 1 = ((pre.length + 2 : Nat) : Int) by omega]
      refine place_ok Z.pl (by omega) (by omega) ?_
      refine o_adds (by simp [big, Mi.pl]; omega) ?_
      decreasing_trivial_pre_omega
      refine fin _ ?_ _ rfl
      unfold wst
      rw [if_pos hc]
      simp [jn, joinBy, tTAKE, tT]
    · decreasing_trivial_pre_omega
      rw [decide_eq_false (show ¬ ((pre.length + 1 : Nat) : Int) < (n : Int) by omega)]
      refine if_no rfl ?_
      decreasing_trivial_pre_omega
      refine fin _ ?_ _ rfl
      unfold wst
      rw [if_neg hc]
      rfl
  · rintro σ st2 ⟨x5, hpn, rfl, k2, h2⟩
    rw [List.length_map, List.length_range] at h2
    have hll := hfl n
    decreasing_trivial_pre_omega
    refine ⟨bt_lst h2 rfl, ?_⟩
    decreasing_trivial_pre_omega
    refine o_adds (by simp [big]; omega) ?_
    decreasing_trivial_pre_omega
    refine o_adds (by simp [big]; omega) ?_
    decreasing_trivial_pre_omega
    refine o_adds (by simp [big]; omega) ?_
    decreasing_trivial_pre_omega
    refine o_adds (by simp [big]; omega) ?_
    decreasing_trivial_pre_omega
    refine o_adds (by simp [big]; omega) ?_
    decreasing_trivial_pre_omega
    refine o_adds (by simp [big]; omega) ?_
    decreasing_trivial_pre_omega
    refine ⟨by simp [big], ?_⟩
    have e1 : [MV.str [97, 116, 32, 117], .str ([116, 97, 107, 101, 32] ++ a ++ [32, 116, 32, 118]), .str [97, 116, 32, 118], .str ([112, 117, 116, 32] ++ b ++ [32, 116, 32, 117]), .str [97, 116, 32, 102, 97, 114], .str ([116, 97, 107, 101, 32] ++ a ++ [32, 116, 32, 102, 97, 114])] = (rw1 a b).map .str := by
      simp [rw1, jn, joinBy, tT, tAT, uW, vW, farW, tPUT, tTAKE]
    rw [e1]
    decreasing_trivial_pre_omega
    refine m_ext (get_app h2) get_new ?_ ?_
    · simp only [List.length_map, List.length_append, hll]
      simp [rw0, rw1, big]; omega
    decreasing_trivial_pre_omega
    rw [← List.map_append, ← spW_rowsj]
    generalize hS3 : (st2 ++ [MO.lst ((rw1 a b).map .str)]).set st1.length _ = S3
    have h3 : S3[st1.length]? = some (.lst (((spW a b n).rows.map (joinBy [32])).map .str)) := by rw [← hS3]; exact get_set (get_app h2)
    have k3 : Keep [] st1 S3 := by rw [← hS3]; exact (k2.trans (Keep.app _ _ _)).new _ (Nat.le_refl _)
    have l3 := k3.le
    have gd := spW_good ha hb hab hn
    refine w_new ?_
    decreasing_trivial_pre_omega
    refine ⟨rfl, ?_⟩
    decreasing_trivial_pre_omega
    refine m_join h3 ?_ ?_
    · have h0 : ∀ r ∈ (spW a b n).rows.map (joinBy [32]), r.length ≤ 45 := fun r hr => by
        obtain ⟨x, hx, rfl⟩ := List.mem_map.mp hr
        obtain ⟨_, x2, x3⟩ := gd.row x hx
        exact row_len x2 fun w hw => (x3 w hw).2.2
      have h1 := sum_len_le _ h0
      have h2 : ((spW a b n).rows.map (joinBy [32])).length ≤ 30 := by
        rw [spW_rowsj]
        simp only [List.length_append, hll]
        simp [rw0, rw1]; omega
      have h3 : 45 * ((spW a b n).rows.map (joinBy [32])).length ≤ 45 * 30 := Nat.mul_le_mul_left _ h2
      simp only [List.length_singleton, big]
      omega
    decreasing_trivial_pre_omega
    rw [show joinBy [10] ((spW a b n).rows.map (joinBy [32])) = (spW a b n).text from rfl]
    refine newbox_at Z.B (N := 1) (by omega) gd.reads (spW_even ha hb hab hn) fun ds dw st4 b4 k4 g2 g3 => ?_
    have k4' : Keep [] st1 st4 := k3.trans k4
    decreasing_trivial_pre_omega
    refine ⟨by simp [big], ?_⟩
    decreasing_trivial_pre_omega
    refine ⟨by simp [big], ?_⟩
    decreasing_trivial_pre_omega
    refine ⟨rfl, ?_⟩
    generalize hS5 : st4 ++ [MO.lst [MV.tup [.str [115], .int 0, .int 0]]] = S5
    have h5 : S5[st4.length]? = some (.lst [MV.tup [.str [115], .int 0, .int 0]]) := by rw [← hS5]; exact get_new
    have k5 : Keep [] st4 S5 := by rw [← hS5]; exact Keep.app _ _ _
    have l5 : S5.length = st4.length + 1 := by rw [← hS5]; simp
    decreasing_trivial_pre_omega
    refine ⟨bt_lst h5 rfl, ?_⟩
    decreasing_trivial_pre_omega
    refine w_rng2 ?_
    decreasing_trivial_pre_omega
    refine ⟨1, (n : Int) + 1, rfl, rfl, by omega, by omega, by omega, by omega, ?_⟩
    rw [hrg]
    refine ⟨by simp [big]; omega, ?_⟩
    refine loop_go (fun pre acc st' => st' = S5 ∧ acc = (((List.range pre.length).map fun (j : Nat) => ((Mi.pl (j + 1), ((j : Int) + 1), ((j : Int) + 1)) : Lrow)).map lrV)) ⟨rfl, rfl⟩ (fun _ _ _ _ => True.intro) ?_ ?_
    · rintro pre xx rr acc st' kk e ⟨rfl, rfl⟩ hkk
      obtain ⟨j, hj, rfl⟩ := item_at (show ((List.range n).map fun (i : Nat) => MV.int (1 + (i : Int))) = pre ++ xx :: rr from e)
      obtain ⟨z1, z2⟩ := List.getElem?_eq_some_iff.mp hj
      rw [List.getElem_range] at z2
      subst z2
      rw [List.length_range] at z1
      rw [show (1 : Int) + ((pre.length : Nat) : Int) = ((pre.length + 1 : Nat) : Int) by omega]
      decreasing_trivial_pre_omega
      refine place_ok Z.pl (by omega) (by omega) ?_
      decreasing_trivial_pre_omega
      refine ⟨by simp [big], ?_⟩
      refine hkk _ _ ⟨rfl, ?_⟩
      rw [List.length_append, List.length_singleton, List.range_succ, List.map_append, List.map_append]
      rfl
    rintro acc st6 ⟨e9, rfl⟩
    have e9 := e9.symm
    subst e9
    rw [List.length_map, List.length_range]
    decreasing_trivial_pre_omega
    refine m_ext (get_app h5) get_new ?_ ?_
    · simp [big]; omega
    decreasing_trivial_pre_omega
    generalize hS7 : (S5 ++ [MO.lst _]).set st4.length _ = S7
    have h7 : S7[st4.length]? = some (.lst ([MV.tup [.str [115], .int 0, .int 0]] ++ ((List.range n).map fun (j : Nat) => ((Mi.pl (j + 1), ((j : Int) + 1), ((j : Int) + 1)) : Lrow)).map lrV)) := by rw [← hS7]; exact get_set (get_app h5)
    have k7 : Keep [] st4 S7 := by rw [← hS7]; exact (k5.trans (Keep.app _ _ _)).new _ (Nat.le_refl _)
    refine ⟨bt_lst h7 rfl, ?_⟩
    decreasing_trivial_pre_omega
    refine ⟨by simp [big], ?_⟩
    decreasing_trivial_pre_omega
    refine ⟨by simp [big], ?_⟩
    decreasing_trivial_pre_omega
    refine ⟨by simp [big], ?_⟩
    decreasing_trivial_pre_omega
    refine m_ext (get_app h7) get_new ?_ ?_
    · simp [big]; omega
    decreasing_trivial_pre_omega
    have e8 : [MV.tup [.str [115], .int 0, .int 0]] ++ ((List.range n).map fun (j : Nat) => ((Mi.pl (j + 1), ((j : Int) + 1), ((j : Int) + 1)) : Lrow)).map lrV ++ [MV.tup [.str [117], .int 0, .int n], MV.tup [.str [118], .int 1, .int ((n : Int) + 1)]] = (dueW n).map lrV := by
      unfold dueW
      rw [List.map_cons, List.map_append]
      rfl
    rw [e8]
    generalize hS8 : (S7 ++ [MO.lst _]).set st4.length _ = S8
    have h8 : S8[st4.length]? = some (.lst ((dueW n).map lrV)) := by rw [← hS8]; exact get_set (get_app h7)
    have k8 : Keep [] st4 S8 := by rw [← hS8]; exact (k7.trans (Keep.app _ _ _)).new _ (Nat.le_refl _)
    have b8 := b4.keep k8 (by simp) (by simp) (by simp)
    have hst : ∃ fss rest, (spW a b n).box.steps = (sW, fss) :: rest := ⟨_, _, rfl⟩
    obtain ⟨fss, rest, hst⟩ := hst
    have ev := (spW_even ha hb hab hn).ev
    rw [show (spW a b n).box.places.headD [] = sW by simp [BoxD.places, hst]] at ev
    refine loads_ok Z.L b8 gd.reads.wf (by omega) hst ev fun rows st9 lo k9 => ?_
    rw [spW_rows ha hb hab hn lo]
    have sh := dueW_shy hn.2
    have h9 := k9.at_ _ _ (by simp) h8
    have b9 := b8.keep k9 (by simp) (by simp) (by simp)
    decreasing_trivial_pre_omega
    refine repr_rows Z.R sh ?_
    decreasing_trivial_pre_omega
    refine u_lst h9 ?_
    decreasing_trivial_pre_omega
    refine repr_rows Z.R sh ?_
    decreasing_trivial_pre_omega
    rw [show (P.rp (.tup ((dueW n).map lrD)) == P.rp (.tup ((dueW n).map lrD))) = true by simp]
    refine if_yes rfl ?_
    decreasing_trivial_pre_omega
    refine span_ok Z.L b9 gd.reads.wf (by omega) hst ev fun rows2 hi lo2 st10 lo' m1 m2 n1 n2 k10 => ?_
    rw [spW_rows ha hb hab hn lo'] at m1 m2 n1 n2
    have eh : hi = (n : Int) + 1 := by
      have a1 := m2 ((n : Int) + 1) (List.mem_map.mpr ⟨(vW, 1, (n : Int) + 1), by simp [dueW], rfl⟩)
      obtain ⟨r, hr, e⟩ := List.mem_map.mp m1
      simp only [dueW, List.mem_cons, List.mem_append, List.mem_map, List.mem_range, List.not_mem_nil, or_false] at hr
      rcases hr with rfl | ⟨j, hj, rfl⟩ | rfl | rfl <;> simp only at e <;> omega
    have el : lo2 = 0 := by
      have a1 := n2 0 (List.mem_map.mpr ⟨(sW, 0, 0), by simp [dueW], rfl⟩)
      obtain ⟨r, hr, e⟩ := List.mem_map.mp n1
      simp only [dueW, List.mem_cons, List.mem_append, List.mem_map, List.mem_range, List.not_mem_nil, or_false] at hr
      rcases hr with rfl | ⟨j, hj, rfl⟩ | rfl | rfl <;> simp only at e <;> omega
    subst eh el
    rw [show (n : Int) + 1 - 0 = (n : Int) + 1 by omega]
    have hsn : PD.shy (.int ((n : Int) + 1)) = true := by
      simp only [PD.shy, decide_eq_true_eq]; omega
    decreasing_trivial_pre_omega
    refine b_repr Z.R rfl hsn (by simp [PD.wt]) ?_
    decreasing_trivial_pre_omega
    refine b_repr Z.R rfl hsn (by simp [PD.wt]) ?_
    decreasing_trivial_pre_omega
    rw [show (P.rp (.int ((n : Int) + 1)) == P.rp (.int ((n : Int) + 1))) = true by simp]
    have kA := ((k4'.trans k8).trans k9).trans k10
    exact q _ (hp1.keep kA (by simp)) (k1.trans (kA.mono (by simp)))
end
theorem right8_ok {P : Prog} (Z : Law8b P) {k : Nat} (hk : 12 ≤ k) {p : Nat} {st : Sto} {Q : Post} {X : Xp} (hp : Pot 900000 st p) (q : ∀ st', Keep [p] st st' → Q (.bl true) st') : sem P k "_law_right" [.ref p] st Q X := by
  refine sem_go (by omega) Z.rt rfl ?_
  show wpSs P _ [_, _] _ [some (.ref p), none, none] st
  decreasing_trivial_pre_omega
  refine ⟨by simp [big], ?_⟩
  decreasing_trivial_pre_omega
  have k0 : Keep [] st (st ++ [MO.lst ([[109], [110], [105, 110], [111, 117, 116], [97, 116], [116, 97, 107, 101], [97], [122, 122, 122, 122, 122, 122, 122, 122]].map MV.str)]) := Keep.app _ _ _
  refine some_ok Z.T Z.so (n := 2) (m := 899998) (by omega) (hp.keep k0 (by simp)) get_new (by simp) (by simp) fun b ys r st1 pm hy hb hge hp1 k1 => ?_
  obtain ⟨x, y, rfl⟩ : ∃ x y, ys = [x, y] := by
    match ys, hy with
    | [x, y], _ => exact ⟨x, y, rfl⟩
  have mem : ∀ z ∈ [x, y], ∃ t : Tx, z = .str t ∧ nmB t = true := fun z hz => by
    have h1 : z ∈ ([[109], [110], [105, 110], [111, 117, 116], [97, 116], [116, 97, 107, 101], [97], [122, 122, 122, 122, 122, 122, 122, 122]] : List Tx).map MV.str := pm.mem_iff.mp (List.mem_append_left _ hz)
    obtain ⟨t, ht, rfl⟩ := List.mem_map.mp h1
    have all8 : ∀ t ∈ ([[109], [110], [105, 110], [111, 117, 116], [97, 116], [116, 97, 107, 101], [97], [122, 122, 122, 122, 122, 122, 122, 122]] : List Tx), nmB t = true := by decide
    exact ⟨t, rfl, all8 t ht⟩
  obtain ⟨s, rfl, hs⟩ := mem x (by simp)
  obtain ⟨t, rfl, ht⟩ := mem y (by simp)
  have hst : s ≠ t := by
    have nd : (([[109], [110], [105, 110], [111, 117, 116], [97, 116], [116, 97, 107, 101], [97], [122, 122, 122, 122, 122, 122, 122, 122]] : List Tx).map MV.str).Nodup := by
      unfold List.Nodup
      rw [List.pairwise_map]
      refine List.Pairwise.imp (R := fun a b => a ≠ b) (fun h e => h (MV.str.inj e)) ?_
      decide
    have := (pm.nodup_iff).mpr nd
    rw [List.nodup_append] at this
    have := this.1
    simp at this
    exact this
  refine w_tl hb rfl ?_
  show wpSs P _ _ _ [some (.ref p), some (.str s), some (.str t)] st1
  decreasing_trivial_pre_omega
  refine srt_ok Z.toLaw8 hs ht hst (m := 10) (by omega) (hp1.less (by omega)) fun st2 hp2 k2 => ?_
  decreasing_trivial_pre_omega
  refine ways_ok Z hs ht hst (m := 9) (by omega) hp2 fun st3 _ k3 => ?_
  exact q _ (((k0.mono (by simp)).trans k1).trans (k2.trans k3))
theorem law8_ok {P : Prog} (Z : Law8b P) (hL : P.df "law" = some (d_lawall 3)) (hC : P.df "_law_cells" = some d_cells) {m1 m2 m3 m4 m5 : Int} (hm : 0 ≤ m1 ∧ m1 < 1000000 ∧ 0 ≤ m3 ∧ m3 < 1000000 ∧ 0 ≤ m4 ∧ m4 < 1000000) (hP : P.df "_law_pot" = some (d_pot m1 m2 m3 m4 m5)) (ns : List Int) (X : Xp) : sem P 60 "law" [.lsv (ns.map .int)] [] (fun v _ => v = .bl true) X :=
  law_all (n := 3) (k := 59) (by decide) hL hC hm hP (fun p st Q X hp q => right8_ok Z (by omega) hp q) ns _ X (fun _ => rfl) (by omega)
end Mi
-- M8
namespace Law8
open PySem L2 Mi Snd
def top (i : Nat) : Stmt := PySem.Challenge.pw_boxtalks_k08_loads_by_hand.main.body.getD i (.Pass ⟨0, 0, 0, 0⟩)
def d_Box___getitem__ : IDef := ⟨2, 2, [
    .iff (.or (.not (.isi (.var 1) .str)) (.cmp .nin (.var 1) (.fld (.var 0) "own_steps"))) [.bad] [],
    .ret (.sub (.fld (.var 0) "own_steps") (.var 1))]⟩
def d_Box___init__ : IDef := ⟨2, 7, [
    .asg (.name 2) (.call "read_lines" (.cons (.var 1) .nil)),
    .setfld (.var 0) "own_text" (.var 1),
    .setfld (.var 0) "own_ins" (.blt .tuple (.cons (.sub (.fld (.var 2) "own_lines") (.con (.str [105, 110]))) .nil)),
    .setfld (.var 0) "own_outs" (.blt .tuple (.cons (.sub (.fld (.var 2) "own_lines") (.con (.str [111, 117, 116]))) .nil)),
    .setfld (.var 0) "own_steps" (.dc (.var 5) (.blt .tuple (.cons (.var 6) .nil)) (.tup [5, 6]) (.items (.fld (.var 2) "steps")) [5, 6]),
    .setfld (.var 0) "own_weights" (.dc (.sub (.var 4) (.con (.int 0))) (.sub (.var 4) (.con (.int 1))) (.name 4) (.ev (.bin .add (.fld (.var 0) "own_ins") (.fld (.var 0) "own_outs"))) [4]),
    .asg (.name 3) (.call "uneven_ring" (.cons (.var 0) .nil)),
    .iff (.cmp .notN (.var 3) (.con .non)) [.bad] []]⟩
def d_Box___len__ : IDef := ⟨1, 1, [
    .ret (.blt .len (.cons (.fld (.var 0) "own_steps") .nil))]⟩
def d_Box_first : IDef := ⟨1, 1, [
    .ret (.sub (.fld (.var 0) "places") (.con (.int 0)))]⟩
def d_Box_gain : IDef := ⟨2, 2, [
    .iff (.cmp .eq (.sub (.var 1) (.con (.int 0))) (.con (.str [116, 117, 114, 110]))) [.ret (.con (.int 0))] [],
    .ret (.ite (.cmp .eq (.sub (.var 1) (.con (.int 0))) (.con (.str [116, 97, 107, 101]))) (.sub (.fld (.var 0) "own_weights") (.sub (.var 1) (.con (.int 1)))) (.neg (.sub (.fld (.var 0) "own_weights") (.sub (.var 1) (.con (.int 1))))))]⟩
def d_Box_places : IDef := ⟨1, 1, [
    .ret (.blt .tuple (.cons (.fld (.var 0) "own_steps") .nil))]⟩
def d_Reading___init__ : IDef := ⟨1, 1, [
    .setfld (.var 0) "own_lines" (.dic (.cons (.con (.str [105, 110])) (.lst .nil) (.cons (.con (.str [111, 117, 116])) (.lst .nil) .nil))),
    .setfld (.var 0) "steps" (.dic .nil),
    .setfld (.var 0) "place" (.con .non),
    .setfld (.var 0) "leads" (.lst .nil)]⟩
def d_Reading_is_formed : IDef := ⟨2, 4, [
    .iff (.or (.cmp .ne (.blt .len (.cons (.var 1) .nil)) (.ite (.cmp .eq (.sub (.var 1) (.con (.int 0))) (.con (.str [116, 117, 114, 110]))) (.con (.int 2)) (.con (.int 4)))) (.not (.call "is_name" (.cons (.sub (.var 1) (.neg (.con (.int 1)))) .nil)))) [.ret (.con (.bl false))] [],
    .asg (.name 2) (.ite (.cmp .eq (.sub (.var 1) (.con (.int 0))) (.con (.str [116, 97, 107, 101]))) (.sub (.fld (.var 0) "own_lines") (.con (.str [105, 110]))) (.sub (.fld (.var 0) "own_lines") (.con (.str [111, 117, 116])))),
    .ret (.or (.cmp .eq (.sub (.var 1) (.con (.int 0))) (.con (.str [116, 117, 114, 110]))) (.blt .any (.cons (.lc (.and (.cmp .eq (.sub (.var 3) (.con (.int 0))) (.sub (.var 1) (.con (.int 1)))) (.cmp .inn (.sub (.var 1) (.con (.int 2))) (.sub (.var 3) (.con (.int 2))))) (.name 3) (.ev (.var 2)) .non [3]) .nil)))]⟩
def d_Reading_is_line : IDef := ⟨2, 8, [
    .par [2, 3] (.cons (.sub (.var 1) (.con (.int 0))) (.cons (.sub (.fld (.var 0) "own_lines") (.sub (.var 1) (.con (.int 0)))) .nil)),
    .iff (.or (.cmp .notN (.fld (.var 0) "place") (.con .non)) (.ite (.cmp .eq (.var 2) (.con (.str [105, 110]))) (.cmp .ne (.sub (.fld (.var 0) "own_lines") (.con (.str [111, 117, 116]))) (.lst .nil)) (.cmp .eq (.sub (.fld (.var 0) "own_lines") (.con (.str [105, 110]))) (.lst .nil)))) [.ret (.con (.bl false))] [],
    .iff (.or (.cmp .eq (.blt .len (.cons (.var 3) .nil)) (.con (.int 3))) (.not (.chn .le .lt (.con (.int 4)) (.blt .len (.cons (.var 1) .nil)) (.bin .add (.con (.int 4)) (.con (.int 2)))))) [.ret (.con (.bl false))] [],
    .par [4, 5, 6] (.cons (.sub (.var 1) (.con (.int 1))) (.cons (.call "number_told" (.cons (.sub (.var 1) (.con (.int 2))) .nil)) (.cons (.blt .tuple (.cons (.sli (.var 1) (.som (.con (.int 3))) .non) .nil)) .nil))),
    .iff (.or (.not (.call "is_name" (.cons (.var 4) .nil))) (.or (.cmp .inn (.var 4) (.mth (.var 0) "names" .nil)) (.or (.cmp .isN (.var 5) (.con .non)) (.not (.chn .le .le (.con (.int 1)) (.var 5) (.con (.int 2))))))) [.ret (.con (.bl false))] [],
    .expr (.bmt (.var 3) .append (.cons (.tup (.cons (.var 4) (.cons (.var 5) (.cons (.var 6) .nil)))) .nil)),
    .ret (.and (.blt .all (.cons (.lc (.call "is_name" (.cons (.var 7) .nil)) (.name 7) (.ev (.var 6)) .non [7]) .nil)) (.call "are_unlike" (.cons (.var 6) .nil)))]⟩
def d_Reading_is_place : IDef := ⟨2, 2, [
    .iff (.or (.cmp .eq (.sub (.fld (.var 0) "own_lines") (.con (.str [111, 117, 116]))) (.lst .nil)) (.or (.cmp .ne (.blt .len (.cons (.var 1) .nil)) (.con (.int 2))) (.not (.call "is_name" (.cons (.sub (.var 1) (.con (.int 1))) .nil))))) [.ret (.con (.bl false))] [],
    .iff (.or (.cmp .inn (.sub (.var 1) (.con (.int 1))) (.fld (.var 0) "steps")) (.cmp .eq (.blt .len (.cons (.fld (.var 0) "steps") .nil)) (.con (.int 40)))) [.ret (.con (.bl false))] [],
    .setfld (.var 0) "place" (.sub (.var 1) (.con (.int 1))),
    .setsub (.fld (.var 0) "steps") (.fld (.var 0) "place") (.lst .nil),
    .ret (.con (.bl true))]⟩
def d_Reading_is_step : IDef := ⟨3, 4, [
    .asg (.name 3) (.blt .tuple (.cons (.var 2) .nil)),
    .iff (.or (.cmp .isN (.fld (.var 0) "place") (.con .non)) (.or (.not (.mth (.var 0) "is_formed" (.cons (.var 3) .nil))) (.cmp .inn (.var 3) (.sub (.fld (.var 0) "steps") (.fld (.var 0) "place"))))) [.ret (.con (.bl false))] [],
    .iff (.cmp .eq (.blt .len (.cons (.fld (.var 0) "leads") .nil)) (.con (.int 80))) [.ret (.con (.bl false))] [],
    .expr (.bmt (.sub (.fld (.var 0) "steps") (.fld (.var 0) "place")) .append (.cons (.var 3) .nil)),
    .expr (.bmt (.fld (.var 0) "leads") .append (.cons (.tup (.cons (.var 1) (.cons (.sub (.var 3) (.neg (.con (.int 1)))) .nil))) .nil)),
    .ret (.con (.bl true))]⟩
def d_Reading_is_taken : IDef := ⟨3, 4, [
    .asg (.name 3) (.bmt (.var 2) .split (.cons (.con (.str [32])) .nil)),
    .iff (.cmp .inn (.sub (.var 3) (.con (.int 0))) (.tup (.cons (.con (.str [105, 110])) (.cons (.con (.str [111, 117, 116])) .nil)))) [.ret (.mth (.var 0) "is_line" (.cons (.var 3) .nil))] [],
    .iff (.cmp .eq (.sub (.var 3) (.con (.int 0))) (.con (.str [97, 116]))) [.ret (.mth (.var 0) "is_place" (.cons (.var 3) .nil))] [],
    .ret (.and (.cmp .inn (.sub (.var 3) (.con (.int 0))) (.tup (.cons (.con (.str [116, 97, 107, 101])) (.cons (.con (.str [112, 117, 116])) (.cons (.con (.str [116, 117, 114, 110])) .nil))))) (.mth (.var 0) "is_step" (.cons (.var 1) (.cons (.var 3) .nil))))]⟩
def d_Reading_names : IDef := ⟨1, 2, [
    .ret (.lc (.sub (.var 1) (.con (.int 0))) (.name 1) (.ev (.bin .add (.sub (.fld (.var 0) "own_lines") (.con (.str [105, 110]))) (.sub (.fld (.var 0) "own_lines") (.con (.str [111, 117, 116]))))) .non [1])]⟩
def d__law_are_straight_right : IDef := ⟨3, 13, [
    .asg (.tup [7, 8, 9, 10]) (.tup (.cons (.bin .add (.con (.int 1)) (.call "_law_take" (.cons (.var 0) (.cons (.con (.int 2)) .nil)))) (.cons (.lst .nil) (.cons (.lst (.cons (.con (.int 0)) .nil)) (.cons (.con (.int 0)) .nil))))),
    .for_ (.name 3) (.rng (.call "_law_of" (.cons (.var 0) (.cons (.lst (.cons (.con (.int 1)) (.cons (.con (.int 5)) (.cons (.con (.int 12)) (.cons (.con (.int 39)) .nil))))) .nil)))) [.expr (.bmt (.var 8) .append (.cons (.call "_law_of" (.cons (.var 0) (.cons (.lst (.cons (.con (.str [116, 97, 107, 101])) (.cons (.con (.str [116, 97, 107, 101])) (.cons (.con (.str [112, 117, 116])) .nil)))) .nil))) .nil)), .asg (.name 10) (.bin .add (.var 10) (.ite (.cmp .eq (.sub (.var 8) (.neg (.con (.int 1)))) (.con (.str [116, 97, 107, 101]))) (.var 7) (.neg (.var 7)))), .expr (.bmt (.var 9) .append (.cons (.var 10) .nil))],
    .asg (.name 4) (.call "_law_straight" (.cons (.var 1) (.cons (.var 2) (.cons (.var 7) (.cons (.var 8) .nil))))),
    .asg (.name 5) (.blt .tuple (.cons (.lc (.tup (.cons (.call "_law_place" (.cons (.var 11) .nil)) (.cons (.var 12) (.cons (.var 12) .nil)))) (.tup [11, 12]) (.enu (.var 9)) .non [11, 12]) .nil)),
    .iff (.or (.cmp .ne (.blt .repr (.cons (.call "loads" (.cons (.var 4) .nil)) .nil)) (.blt .repr (.cons (.var 5) .nil))) (.cmp .ne (.call "span" (.cons (.var 4) .nil)) (.bin .sub (.blt .max (.cons (.var 9) .nil)) (.blt .min (.cons (.var 9) .nil))))) [.ret (.con (.bl false))] [],
    .asg (.name 6) (.call "_law_straight" (.cons (.var 1) (.cons (.var 2) (.cons (.con (.int 2)) (.cons (.bin .mul (.lst (.cons (.con (.str [116, 97, 107, 101])) .nil)) (.con (.int 39))) .nil))))),
    .ret (.and (.cmp .eq (.call "span" (.cons (.var 6) .nil)) (.con (.int 78))) (.cmp .eq (.sub (.call "loads" (.cons (.var 6) .nil)) (.neg (.con (.int 1)))) (.tup (.cons (.call "_law_place" (.cons (.con (.int 39)) .nil)) (.cons (.con (.int 78)) (.cons (.con (.int 78)) .nil))))))]⟩
def d__law_are_ways_right : IDef := ⟨3, 8, [
    .asg (.name 3) (.bin .add (.con (.int 1)) (.call "_law_take" (.cons (.var 0) (.cons (.con (.int 9)) .nil)))),
    .asg (.name 4) (.lst (.cons (.bin .add (.bin .add (.con (.str [105, 110, 32])) (.var 1)) (.con (.str [32, 49, 32, 116]))) (.cons (.bin .add (.bin .add (.con (.str [111, 117, 116, 32])) (.var 2)) (.con (.str [32, 49, 32, 116]))) (.cons (.con (.str [97, 116, 32, 115])) (.cons (.con (.str [116, 117, 114, 110, 32, 117])) (.cons (.bin .add (.bin .add (.bin .add (.con (.str [116, 97, 107, 101, 32])) (.var 1)) (.con (.str [32, 116, 32]))) (.call "_law_place" (.cons (.con (.int 1)) .nil))) .nil)))))),
    .for_ (.name 5) (.rng2 (.con (.int 1)) (.bin .add (.var 3) (.con (.int 1)))) [.expr (.bmt (.var 4) .extend (.cons (.lst (.cons (.bin .add (.con (.str [97, 116, 32])) (.call "_law_place" (.cons (.var 5) .nil))) .nil)) .nil)), .expr (.bmt (.var 4) .append (.cons (.ite (.cmp .lt (.var 5) (.var 3)) (.bin .add (.bin .add (.bin .add (.con (.str [116, 97, 107, 101, 32])) (.var 1)) (.con (.str [32, 116, 32]))) (.call "_law_place" (.cons (.bin .add (.var 5) (.con (.int 1))) .nil))) (.con (.str [116, 117, 114, 110, 32, 117]))) .nil))],
    .expr (.bmt (.var 4) .extend (.cons (.lst (.cons (.con (.str [97, 116, 32, 117])) (.cons (.bin .add (.bin .add (.con (.str [116, 97, 107, 101, 32])) (.var 1)) (.con (.str [32, 116, 32, 118]))) (.cons (.con (.str [97, 116, 32, 118])) (.cons (.bin .add (.bin .add (.con (.str [112, 117, 116, 32])) (.var 2)) (.con (.str [32, 116, 32, 117]))) (.cons (.con (.str [97, 116, 32, 102, 97, 114])) (.cons (.bin .add (.bin .add (.con (.str [116, 97, 107, 101, 32])) (.var 1)) (.con (.str [32, 116, 32, 102, 97, 114]))) .nil))))))) .nil)),
    .par [6, 7] (.cons (.new "Box" (.cons (.bmt (.con (.str [10])) .join (.cons (.var 4) .nil)) .nil)) (.cons (.lst (.cons (.tup (.cons (.con (.str [115])) (.cons (.con (.int 0)) (.cons (.con (.int 0)) .nil)))) .nil)) .nil)),
    .expr (.bmt (.var 7) .extend (.cons (.lc (.tup (.cons (.call "_law_place" (.cons (.var 5) .nil)) (.cons (.var 5) (.cons (.var 5) .nil)))) (.name 5) (.rng2 (.con (.int 1)) (.bin .add (.var 3) (.con (.int 1)))) .non [5]) .nil)),
    .expr (.bmt (.var 7) .extend (.cons (.lst (.cons (.tup (.cons (.con (.str [117])) (.cons (.con (.int 0)) (.cons (.var 3) .nil)))) (.cons (.tup (.cons (.con (.str [118])) (.cons (.con (.int 1)) (.cons (.bin .add (.var 3) (.con (.int 1))) .nil)))) .nil))) .nil)),
    .ret (.and (.cmp .eq (.blt .repr (.cons (.call "loads" (.cons (.var 6) .nil)) .nil)) (.blt .repr (.cons (.blt .tuple (.cons (.var 7) .nil)) .nil))) (.cmp .eq (.blt .repr (.cons (.call "span" (.cons (.var 6) .nil)) .nil)) (.blt .repr (.cons (.bin .add (.var 3) (.con (.int 1))) .nil))))]⟩
def d__law_cells : IDef := ⟨2, 2, [
    .ret (.lrg (.blt .max (.cons (.con (.int 1)) (.cons (.blt .min (.cons (.var 1) (.cons (.blt .len (.cons (.var 0) .nil)) .nil))) .nil))))]⟩
def d__law_of : IDef := ⟨2, 2, [
    .ret (.sub (.var 1) (.call "_law_take" (.cons (.var 0) (.cons (.blt .len (.cons (.var 1) .nil)) .nil))))]⟩
def d__law_place : IDef := ⟨1, 1, [
    .ret (.bin .add (.bin .add (.con (.str [112])) (.sub (.con (.str [97, 98, 99, 100, 101, 102, 103, 104, 105, 106, 107, 108, 109, 110, 111, 112, 113, 114, 115, 116, 117, 118, 119, 120, 121, 122])) (.blt .int (.cons (.bin .fdiv (.var 0) (.con (.int 26))) .nil)))) (.sub (.con (.str [97, 98, 99, 100, 101, 102, 103, 104, 105, 106, 107, 108, 109, 110, 111, 112, 113, 114, 115, 116, 117, 118, 119, 120, 121, 122])) (.blt .int (.cons (.bin .mod (.var 0) (.con (.int 26))) .nil))))]⟩
def d__law_pot : IDef := ⟨2, 5, [
    .asg (.name 2) (.ite (.cmp .lt (.var 1) (.blt .len (.cons (.var 0) .nil))) (.sub (.var 0) (.var 1)) (.bin .add (.bin .mul (.con (.int 271)) (.var 1)) (.con (.int 113)))),
    .asg (.name 3) (.bin .mul (.bin .mod (.blt .int (.cons (.blt .abs (.cons (.var 2) .nil)) .nil)) (.bin .pow (.bin .pow (.con (.int 10)) (.con (.int 60))) (.con (.int 5)))) (.blt .int (.cons (.cmp .ge (.blt .abs (.cons (.var 2) .nil)) (.bin .pow (.con (.int 10)) (.con (.int 18)))) .nil))),
    .asg (.name 4) (.bin .mod (.blt .int (.cons (.var 2) .nil)) (.con (.int 2305843009213693951))),
    .ret (.lst (.cons (.var 3) (.cons (.bin .mod (.blt .int (.cons (.bin .add (.bin .add (.bin .mul (.var 4) (.con (.int 75037))) (.bin .mul (.bin .mul (.con (.int 8123)) (.var 1)) (.var 1))) (.con (.int 179))) .nil)) (.con (.int 2305843009213693921))) (.cons (.con (.int 0)) .nil))))]⟩
def d__law_right : IDef := ⟨1, 3, [
    .asg (.tup [1, 2]) (.call "_law_some" (.cons (.var 0) (.cons (.lst (.cons (.con (.str [109])) (.cons (.con (.str [110])) (.cons (.con (.str [105, 110])) (.cons (.con (.str [111, 117, 116])) (.cons (.con (.str [97, 116])) (.cons (.con (.str [116, 97, 107, 101])) (.cons (.con (.str [97])) (.cons (.con (.str [122, 122, 122, 122, 122, 122, 122, 122])) .nil))))))))) (.cons (.con (.int 2)) .nil)))),
    .ret (.and (.call "_law_are_straight_right" (.cons (.var 0) (.cons (.var 1) (.cons (.var 2) .nil)))) (.call "_law_are_ways_right" (.cons (.var 0) (.cons (.var 1) (.cons (.var 2) .nil)))))]⟩
def d__law_some : IDef := ⟨3, 6, [
    .par [4, 5] (.cons (.blt .list (.cons (.var 1) .nil)) (.cons (.lst .nil) .nil)),
    .for_ (.name 3) (.rng (.var 2)) [.expr (.bmt (.var 5) .append (.cons (.bmt (.var 4) .pop (.cons (.call "_law_take" (.cons (.var 0) (.cons (.blt .len (.cons (.var 4) .nil)) .nil))) .nil)) .nil))],
    .ret (.var 5)]⟩
def d__law_straight : IDef := ⟨4, 8, [
    .asg (.name 4) (.lst (.cons (.bin .add (.bin .add (.bin .add (.bin .add (.con (.str [105, 110, 32])) (.var 0)) (.con (.str [32]))) (.blt .str (.cons (.var 2) .nil))) (.con (.str [32, 116]))) (.cons (.bin .add (.bin .add (.bin .add (.bin .add (.con (.str [111, 117, 116, 32])) (.var 1)) (.con (.str [32]))) (.blt .str (.cons (.var 2) .nil))) (.con (.str [32, 116]))) .nil))),
    .for_ (.tup [5, 6]) (.enu (.var 3)) [.asg (.name 7) (.ite (.cmp .eq (.var 6) (.con (.str [116, 97, 107, 101]))) (.var 0) (.var 1)), .expr (.bmt (.var 4) .extend (.cons (.lst (.cons (.bin .add (.con (.str [97, 116, 32])) (.call "_law_place" (.cons (.var 5) .nil))) (.cons (.bmt (.con (.str [32])) .join (.cons (.lst (.cons (.var 6) (.cons (.var 7) (.cons (.con (.str [116])) (.cons (.call "_law_place" (.cons (.bin .add (.var 5) (.con (.int 1))) .nil)) .nil))))) .nil)) .nil))) .nil))],
    .ret (.new "Box" (.cons (.bmt (.con (.str [10])) .join (.cons (.bin .add (.var 4) (.lst (.cons (.bin .add (.con (.str [97, 116, 32])) (.call "_law_place" (.cons (.blt .len (.cons (.var 3) .nil)) .nil))) .nil))) .nil)) .nil))]⟩
def d__law_take : IDef := ⟨2, 5, [
    .iff (.cmp .gt (.sub (.var 0) (.con (.int 0))) (.con (.int 0))) [.asg (.name 4) (.bin .mod (.blt .int (.cons (.sub (.var 0) (.con (.int 0))) .nil)) (.var 1)), .setsub (.var 0) (.con (.int 0)) (.bin .fdiv (.sub (.var 0) (.con (.int 0))) (.var 1)), .ret (.var 4)] [],
    .setsub (.var 0) (.con (.int 2)) (.bin .add (.sub (.var 0) (.con (.int 2))) (.con (.int 1))),
    .asg (.name 2) (.sub (.lst (.cons (.con (.int 2147483647)) (.cons (.con (.int 2147483629)) (.cons (.con (.int 2147483587)) (.cons (.con (.int 2147483579)) (.cons (.con (.int 2147483563)) .nil)))))) (.bin .mod (.blt .int (.cons (.sub (.var 0) (.con (.int 2))) .nil)) (.con (.int 5)))),
    .asg (.name 3) (.bin .mod (.blt .int (.cons (.bin .pow (.blt .int (.cons (.bin .add (.bin .add (.sub (.var 0) (.con (.int 1))) (.bin .mul (.bin .mul (.con (.int 100049)) (.sub (.var 0) (.con (.int 2)))) (.sub (.var 0) (.con (.int 2))))) (.con (.int 67))) .nil)) (.con (.int 3))) .nil)) (.var 2)),
    .asg (.name 3) (.bin .mod (.blt .int (.cons (.bin .mul (.var 3) (.bin .add (.bin .mod (.blt .int (.cons (.var 3) .nil)) (.con (.int 10267))) (.bin .mul (.con (.int 163)) (.sub (.var 0) (.con (.int 2)))))) .nil)) (.con (.int 2305843009213693907))),
    .ret (.bin .mod (.blt .int (.cons (.bin .fdiv (.var 3) (.con (.int 139))) .nil)) (.var 1))]⟩
def d_are_unlike : IDef := ⟨1, 3, [
    .asg (.name 1) (.lst .nil),
    .for_ (.name 2) (.ev (.var 0)) [.iff (.cmp .inn (.var 2) (.var 1)) [.ret (.con (.bl false))] [], .expr (.bmt (.var 1) .append (.cons (.var 2) .nil))],
    .ret (.con (.bl true))]⟩
def d_is_name : IDef := ⟨1, 2, [
    .iff (.or (.not (.isi (.var 0) .str)) (.not (.chn .le .le (.con (.int 1)) (.blt .len (.cons (.var 0) .nil)) (.con (.int 8))))) [.ret (.con (.bl false))] [],
    .ret (.blt .all (.cons (.lc (.cmp .inn (.var 1) (.con (.str [97, 98, 99, 100, 101, 102, 103, 104, 105, 106, 107, 108, 109, 110, 111, 112, 113, 114, 115, 116, 117, 118, 119, 120, 121, 122]))) (.name 1) (.ev (.var 0)) .non [1]) .nil))]⟩
def d_law : IDef := ⟨1, 2, [
    .ret (.blt .all (.cons (.lc (.call "_law_right" (.cons (.call "_law_pot" (.cons (.var 0) (.cons (.var 1) .nil))) .nil)) (.name 1) (.ev (.call "_law_cells" (.cons (.var 0) (.cons (.con (.int 3)) .nil)))) .non [1]) .nil))]⟩
def d_load_of : IDef := ⟨2, 4, [
    .ret (.blt .sum (.cons (.lc (.mth (.var 0) "gain" (.cons (.var 3) .nil)) (.tup [2, 3]) (.ev (.var 1)) .non [2, 3]) .nil))]⟩
def d_loads : IDef := ⟨1, 11, [
    .asg (.name 1) (.dic (.cons (.fld (.var 0) "first") (.tup (.cons (.con (.int 0)) (.cons (.con (.int 0)) .nil))) .nil)),
    .asg (.name 2) (.call "met" (.cons (.var 0) (.cons (.fld (.var 0) "first") .nil))),
    .for_ (.name 3) (.rng (.blt .len (.cons (.var 2) .nil))) [.for_ (.name 4) (.ev (.lc (.var 6) (.name 6) (.keys (.var 2)) (.som (.cmp .inn (.var 6) (.var 1))) [6])) [.for_ (.name 5) (.ev (.sub (.var 0) (.var 4))) [.asg (.tup [8, 9]) (.lc (.bin .add (.var 10) (.mth (.var 0) "gain" (.cons (.var 5) .nil))) (.name 10) (.ev (.sub (.var 1) (.var 4))) .non [10]), .asg (.name 7) (.bmt (.var 1) .get (.cons (.sub (.var 5) (.neg (.con (.int 1)))) (.cons (.tup (.cons (.var 8) (.cons (.var 9) .nil))) .nil))), .setsub (.var 1) (.sub (.var 5) (.neg (.con (.int 1)))) (.tup (.cons (.blt .min (.cons (.blt .int (.cons (.var 8) .nil)) (.cons (.blt .int (.cons (.sub (.var 7) (.con (.int 0))) .nil)) .nil))) (.cons (.blt .max (.cons (.blt .int (.cons (.var 9) .nil)) (.cons (.blt .int (.cons (.sub (.var 7) (.con (.int 1))) .nil)) .nil))) .nil)))]]],
    .ret (.blt .tuple (.cons (.lc (.tup (.cons (.var 4) (.star (.sub (.var 1) (.var 4)) .nil))) (.name 4) (.ev (.fld (.var 0) "places")) (.som (.cmp .inn (.var 4) (.var 1))) [4]) .nil))]⟩
def d_met : IDef := ⟨2, 6, [
    .par [2, 3] (.cons (.dic (.cons (.var 1) (.con .non) .nil)) (.cons (.lst (.cons (.var 1) .nil)) .nil)),
    .whl (.cmp .ne (.var 3) (.lst .nil)) [.asg (.name 4) (.bmt (.var 3) .pop (.cons (.con (.int 0)) .nil)), .for_ (.name 5) (.ev (.sub (.var 0) (.var 4))) [.iff (.cmp .nin (.sub (.var 5) (.neg (.con (.int 1)))) (.var 2)) [.setsub (.var 2) (.sub (.var 5) (.neg (.con (.int 1)))) (.tup (.cons (.var 4) (.cons (.var 5) .nil))), .expr (.bmt (.var 3) .append (.cons (.sub (.var 5) (.neg (.con (.int 1)))) .nil))] []]],
    .ret (.var 2)]⟩
def d_number_told : IDef := ⟨1, 2, [
    .iff (.or (.not (.chn .le .le (.con (.int 1)) (.blt .len (.cons (.var 0) .nil)) (.con (.int 9)))) (.not (.blt .all (.cons (.lc (.cmp .inn (.var 1) (.con (.str [48, 49, 50, 51, 52, 53, 54, 55, 56, 57]))) (.name 1) (.ev (.var 0)) .non [1]) .nil)))) [.ret (.con .non)] [],
    .ret (.ite (.or (.cmp .ne (.sub (.var 0) (.con (.int 0))) (.con (.str [48]))) (.cmp .eq (.var 0) (.con (.str [48])))) (.blt .int (.cons (.var 0) .nil)) (.con .non))]⟩
def d_read_lines : IDef := ⟨1, 7, [
    .iff (.not (.isi (.var 0) .str)) [.bad] [],
    .par [1, 2] (.cons (.new "Reading" .nil) (.cons (.bmt (.var 0) .split (.cons (.con (.str [10])) .nil)) .nil)),
    .for_ (.tup [3, 4]) (.enu (.var 2)) [.iff (.not (.mth (.var 1) "is_taken" (.cons (.bin .add (.var 3) (.con (.int 1))) (.cons (.var 4) .nil)))) [.bad] []],
    .iff (.cmp .eq (.fld (.var 1) "steps") (.dic .nil)) [.bad] [],
    .for_ (.tup [5, 6]) (.ev (.fld (.var 1) "leads")) [.iff (.cmp .nin (.var 6) (.fld (.var 1) "steps")) [.bad] []],
    .ret (.var 1)]⟩
def d_ring_by : IDef := ⟨4, 8, [
    .asg (.tup [6, 7]) (.var 3),
    .asg (.name 4) (.call "walk_to" (.cons (.call "met" (.cons (.var 0) (.cons (.sub (.var 7) (.neg (.con (.int 1)))) .nil))) (.cons (.var 1) .nil))),
    .for_ (.name 5) (.ev (.tup (.cons (.tup (.star (.call "walk_to" (.cons (.var 2) (.cons (.var 6) .nil))) (.cons (.var 3) (.star (.var 4) .nil)))) (.cons (.tup (.star (.call "walk_to" (.cons (.var 2) (.cons (.sub (.var 7) (.neg (.con (.int 1)))) .nil))) (.star (.var 4) .nil))) .nil)))) [.iff (.cmp .ne (.call "load_of" (.cons (.var 0) (.cons (.var 5) .nil))) (.con (.int 0))) [.ret (.var 5)] []],
    .ret (.con .non)]⟩
def d_span : IDef := ⟨1, 5, [
    .asg (.name 1) (.call "loads" (.cons (.var 0) .nil)),
    .ret (.bin .sub (.blt .max (.cons (.lc (.var 4) (.tup [2, 3, 4]) (.ev (.var 1)) .non [2, 3, 4]) .nil)) (.blt .min (.cons (.lc (.var 3) (.tup [2, 3, 4]) (.ev (.var 1)) .non [2, 3, 4]) .nil)))]⟩
def d_turned : IDef := ⟨4, 8, [
    .asg (.name 4) (.lc (.var 7) (.tup [7, 5]) (.ev (.var 2)) .non [7, 5]),
    .iff (.cmp .inn (.var 1) (.var 4)) [.ret (.blt .tuple (.cons (.sli (.var 2) (.som (.bmt (.var 4) .index (.cons (.var 1) .nil))) .non) .nil))] [],
    .for_ (.name 5) (.ev (.ite (.cmp .nin (.var 1) (.var 3)) (.sub (.var 0) (.var 1)) (.tup .nil))) [.iff (.cmp .eq (.blt .len (.cons (.var 5) .nil)) (.con (.int 2))) [.asg (.name 6) (.call "turned" (.cons (.var 0) (.cons (.sub (.var 5) (.neg (.con (.int 1)))) (.cons (.lst (.star (.var 2) (.cons (.tup (.cons (.var 1) (.cons (.var 5) .nil))) .nil))) (.cons (.var 3) .nil))))), .iff (.cmp .notN (.var 6) (.con .non)) [.ret (.var 6)] []] []],
    .expr (.bmt (.var 3) .append (.cons (.var 1) .nil)),
    .ret (.con .non)]⟩
def d_uneven_by : IDef := ⟨2, 6, [
    .asg (.name 2) (.call "met" (.cons (.var 0) (.cons (.var 1) .nil))),
    .for_ (.name 3) (.keys (.var 2)) [.for_ (.name 4) (.ev (.sub (.var 0) (.var 3))) [.iff (.cmp .inn (.var 1) (.call "met" (.cons (.var 0) (.cons (.sub (.var 4) (.neg (.con (.int 1)))) .nil)))) [.asg (.name 5) (.call "ring_by" (.cons (.var 0) (.cons (.var 1) (.cons (.var 2) (.cons (.tup (.cons (.var 3) (.cons (.var 4) .nil))) .nil))))), .iff (.cmp .notN (.var 5) (.con .non)) [.ret (.var 5)] []] []]],
    .ret (.con .non)]⟩
def d_uneven_ring : IDef := ⟨1, 4, [
    .asg (.name 1) (.lst .nil),
    .for_ (.name 2) (.keys (.call "met" (.cons (.var 0) (.cons (.fld (.var 0) "first") .nil)))) [.asg (.name 3) (.call "turned" (.cons (.var 0) (.cons (.var 2) (.cons (.lst .nil) (.cons (.var 1) .nil))))), .iff (.cmp .isN (.var 3) (.con .non)) [.asg (.name 3) (.call "uneven_by" (.cons (.var 0) (.cons (.var 2) .nil)))] [], .iff (.cmp .notN (.var 3) (.con .non)) [.ret (.var 3)] []],
    .ret (.con .non)]⟩
def d_walk_to : IDef := ⟨2, 3, [
    .asg (.name 2) (.lst .nil),
    .whl (.cmp .notN (.sub (.var 0) (.var 1)) (.con .non)) [.expr (.bmt (.var 2) .append (.cons (.sub (.var 0) (.var 1)) .nil)), .asg (.name 1) (.sub (.sub (.var 0) (.var 1)) (.con (.int 0)))],
    .ret (.blt .tuple (.cons (.rev (.var 2)) .nil))]⟩
def dat : Dat := ⟨[("TURN_WORDS_rings", (.int 2)), ("BLANK", (.str [32])), ("FEED", (.str [10])), ("MOST_SIGNS", (.int 8)), ("MOST_FIGURES", (.int 9)), ("SIGNS", (.str [97, 98, 99, 100, 101, 102, 103, 104, 105, 106, 107, 108, 109, 110, 111, 112, 113, 114, 115, 116, 117, 118, 119, 120, 121, 122])), ("FIGURES", (.str [48, 49, 50, 51, 52, 53, 54, 55, 56, 57])), ("IN", (.str [105, 110])), ("OUT", (.str [111, 117, 116])), ("AT", (.str [97, 116])), ("TAKE", (.str [116, 97, 107, 101])), ("PUT", (.str [112, 117, 116])), ("TURN", (.str [116, 117, 114, 110])), ("MOST_LINES", (.int 3)), ("MOST_WORTHS", (.int 2)), ("MOST_WEIGHT", (.int 2)), ("MOST_PLACES", (.int 40)), ("MOST_STEPS", (.int 80)), ("LINE_WORDS", (.int 4)), ("STEP_WORDS", (.int 4)), ("TURN_WORDS_boxes", (.int 2)), ("AT_WORDS", (.int 2))],
  ["_law_are_straight_right", "_law_are_ways_right", "_law_cells", "_law_of", "_law_place", "_law_pot", "_law_right", "_law_some", "_law_straight", "_law_take", "are_unlike", "is_name", "law", "load_of", "loads", "met", "number_told", "read_lines", "ring_by", "span", "turned", "uneven_by", "uneven_ring", "walk_to"],
  ["Box", "Reading"],
  [("Box.__getitem__", d_Box___getitem__), ("Box.__init__", d_Box___init__), ("Box.__len__", d_Box___len__), ("Box.first", d_Box_first), ("Box.gain", d_Box_gain), ("Box.places", d_Box_places), ("Reading.__init__", d_Reading___init__), ("Reading.is_formed", d_Reading_is_formed), ("Reading.is_line", d_Reading_is_line), ("Reading.is_place", d_Reading_is_place), ("Reading.is_step", d_Reading_is_step), ("Reading.is_taken", d_Reading_is_taken), ("Reading.names", d_Reading_names), ("_law_are_straight_right", d__law_are_straight_right), ("_law_are_ways_right", d__law_are_ways_right), ("_law_cells", d__law_cells), ("_law_of", d__law_of), ("_law_place", d__law_place), ("_law_pot", d__law_pot), ("_law_right", d__law_right), ("_law_some", d__law_some), ("_law_straight", d__law_straight), ("_law_take", d__law_take), ("are_unlike", d_are_unlike), ("is_name", d_is_name), ("law", d_law), ("load_of", d_load_of), ("loads", d_loads), ("met", d_met), ("number_told", d_number_told), ("read_lines", d_read_lines), ("ring_by", d_ring_by), ("span", d_span), ("turned", d_turned), ("uneven_by", d_uneven_by), ("uneven_ring", d_uneven_ring), ("walk_to", d_walk_to)],
  [(("Box", "__getitem__"), "Box.__getitem__"), (("Box", "__init__"), "Box.__init__"), (("Box", "__len__"), "Box.__len__"), (("Box", "gain"), "Box.gain"), (("Reading", "__init__"), "Reading.__init__"), (("Reading", "is_formed"), "Reading.is_formed"), (("Reading", "is_line"), "Reading.is_line"), (("Reading", "is_place"), "Reading.is_place"), (("Reading", "is_step"), "Reading.is_step"), (("Reading", "is_taken"), "Reading.is_taken"), (("Reading", "names"), "Reading.names")],
  [(("Box", "first"), some "Box.first"), (("Box", "places"), some "Box.places"), (("Box", "own_text"), none), (("Box", "own_ins"), none), (("Box", "own_outs"), none), (("Box", "own_steps"), none), (("Box", "own_weights"), none), (("Reading", "own_lines"), none), (("Reading", "steps"), none), (("Reading", "place"), none), (("Reading", "leads"), none)]⟩
abbrev s_Box___getitem__ : Spot := ⟨"Box.__getitem__", "__getitem__", inClass (top 46) 6, ["self", "place"], ["self", "place"]⟩
abbrev s_Box___init__ : Spot := ⟨"Box.__init__", "__init__", inClass (top 46) 0, ["self", "text", "found", "ring", "line", "place", "steps"], ["self", "text"]⟩
abbrev s_Box___len__ : Spot := ⟨"Box.__len__", "__len__", inClass (top 46) 8, ["self"], ["self"]⟩
abbrev s_Box_first : Spot := ⟨"Box.first", "first", inClass (top 46) 5, ["self"], ["self"]⟩
abbrev s_Box_gain : Spot := ⟨"Box.gain", "gain", inClass (top 46) 11, ["self", "step"], ["self", "step"]⟩
abbrev s_Box_places : Spot := ⟨"Box.places", "places", inClass (top 46) 4, ["self"], ["self"]⟩
abbrev s_Reading___init__ : Spot := ⟨"Reading.__init__", "__init__", inClass (top 44) 0, ["self"], ["self"]⟩
abbrev s_Reading_is_formed : Spot := ⟨"Reading.is_formed", "is_formed", inClass (top 44) 5, ["self", "step", "own", "line"], ["self", "step"]⟩
abbrev s_Reading_is_line : Spot := ⟨"Reading.is_line", "is_line", inClass (top 44) 2, ["self", "words", "kind", "own", "name", "weight", "worths", "worth"], ["self", "words"]⟩
abbrev s_Reading_is_place : Spot := ⟨"Reading.is_place", "is_place", inClass (top 44) 3, ["self", "words"], ["self", "words"]⟩
abbrev s_Reading_is_step : Spot := ⟨"Reading.is_step", "is_step", inClass (top 44) 4, ["self", "number", "words", "step"], ["self", "number", "words"]⟩
abbrev s_Reading_is_taken : Spot := ⟨"Reading.is_taken", "is_taken", inClass (top 44) 6, ["self", "number", "row", "words"], ["self", "number", "row"]⟩
abbrev s_Reading_names : Spot := ⟨"Reading.names", "names", inClass (top 44) 1, ["self", "line"], ["self"]⟩
abbrev s__law_are_straight_right : Spot := ⟨"_law_are_straight_right", "_law_are_straight_right", top 55, ["_law_pot_here", "_law_a", "_law_b", "_law_lap", "_law_box", "_law_rows", "_law_most", "_law_weight", "_law_words", "_law_due", "_law_load", "_law_at", "_law_number"], ["_law_pot_here", "_law_a", "_law_b"]⟩
abbrev s__law_are_ways_right : Spot := ⟨"_law_are_ways_right", "_law_are_ways_right", top 56, ["_law_pot_here", "_law_a", "_law_b", "_law_many", "_law_rows", "_law_at", "_law_box", "_law_due"], ["_law_pot_here", "_law_a", "_law_b"]⟩
abbrev s__law_cells : Spot := ⟨"_law_cells", "_law_cells", top 52, ["_law_script", "_law_most"], ["_law_script", "_law_most"]⟩
abbrev s__law_of : Spot := ⟨"_law_of", "_law_of", top 50, ["_law_pot_here", "_law_some_here"], ["_law_pot_here", "_law_some_here"]⟩
abbrev s__law_place : Spot := ⟨"_law_place", "_law_place", top 54, ["_law_at"], ["_law_at"]⟩
abbrev s__law_pot : Spot := ⟨"_law_pot", "_law_pot", top 48, ["_law_script", "_law_place_here", "_law_cell", "_law_own", "_law_small"], ["_law_script", "_law_place_here"]⟩
abbrev s__law_right : Spot := ⟨"_law_right", "_law_right", top 57, ["_law_pot_here", "_law_a", "_law_b"], ["_law_pot_here"]⟩
abbrev s__law_some : Spot := ⟨"_law_some", "_law_some", top 51, ["_law_pot_here", "_law_pool", "_law_many", "_law_lap", "_law_rest", "_law_found"], ["_law_pot_here", "_law_pool", "_law_many"]⟩
abbrev s__law_straight : Spot := ⟨"_law_straight", "_law_straight", top 53, ["_law_a", "_law_b", "_law_weight", "_law_words", "_law_rows", "_law_at", "_law_word", "_law_line"], ["_law_a", "_law_b", "_law_weight", "_law_words"]⟩
abbrev s__law_take : Spot := ⟨"_law_take", "_law_take", top 49, ["_law_pot_here", "_law_upto", "_law_prime", "_law_blend", "_law_digit"], ["_law_pot_here", "_law_upto"]⟩
abbrev s_are_unlike : Spot := ⟨"are_unlike", "are_unlike", top 26, ["some", "found", "one"], ["some"]⟩
abbrev s_is_name : Spot := ⟨"is_name", "is_name", top 25, ["value", "sign"], ["value"]⟩
abbrev s_law : Spot := ⟨"law", "law", top 58, ["_law_script", "_law_place_here"], ["_law_script"]⟩
abbrev s_load_of : Spot := ⟨"load_of", "load_of", top 5, ["box", "walk", "place", "step"], ["box", "walk"]⟩
abbrev s_loads : Spot := ⟨"loads", "loads", top 11, ["box", "found", "reached", "lap", "place", "step", "one", "mine", "low", "high", "number"], ["box"]⟩
abbrev s_met : Spot := ⟨"met", "met", top 3, ["box", "begin", "found", "waiting", "place", "step"], ["box", "begin"]⟩
abbrev s_number_told : Spot := ⟨"number_told", "number_told", top 27, ["word", "sign"], ["word"]⟩
abbrev s_read_lines : Spot := ⟨"read_lines", "read_lines", top 45, ["text", "found", "rows", "at", "row", "number", "place"], ["text"]⟩
abbrev s_ring_by : Spot := ⟨"ring_by", "ring_by", top 6, ["box", "root", "found", "link", "back", "ring", "place", "step"], ["box", "root", "found", "link"]⟩
abbrev s_span : Spot := ⟨"span", "span", top 12, ["box", "rows", "place", "low", "high"], ["box"]⟩
abbrev s_turned : Spot := ⟨"turned", "turned", top 8, ["box", "place", "row", "done", "places", "step", "ring", "one"], ["box", "place", "row", "done"]⟩
abbrev s_uneven_by : Spot := ⟨"uneven_by", "uneven_by", top 7, ["box", "root", "found", "place", "step", "ring"], ["box", "root"]⟩
abbrev s_uneven_ring : Spot := ⟨"uneven_ring", "uneven_ring", top 9, ["box", "done", "place", "ring"], ["box"]⟩
abbrev s_walk_to : Spot := ⟨"walk_to", "walk_to", top 4, ["found", "goal", "rows"], ["found", "goal"]⟩
abbrev t_Box___getitem__ : Stmt := inClass (top 46) 6
abbrev t_Box___init__ : Stmt := inClass (top 46) 0
abbrev t_Box___len__ : Stmt := inClass (top 46) 8
abbrev t_Box_first : Stmt := inClass (top 46) 5
abbrev t_Box_gain : Stmt := inClass (top 46) 11
abbrev t_Box_places : Stmt := inClass (top 46) 4
abbrev t_Reading___init__ : Stmt := inClass (top 44) 0
abbrev t_Reading_is_formed : Stmt := inClass (top 44) 5
abbrev t_Reading_is_line : Stmt := inClass (top 44) 2
abbrev t_Reading_is_place : Stmt := inClass (top 44) 3
abbrev t_Reading_is_step : Stmt := inClass (top 44) 4
abbrev t_Reading_is_taken : Stmt := inClass (top 44) 6
abbrev t_Reading_names : Stmt := inClass (top 44) 1
abbrev t__law_are_straight_right : Stmt := top 55
abbrev t__law_are_ways_right : Stmt := top 56
abbrev t__law_cells : Stmt := top 52
abbrev t__law_of : Stmt := top 50
abbrev t__law_place : Stmt := top 54
abbrev t__law_pot : Stmt := top 48
abbrev t__law_right : Stmt := top 57
abbrev t__law_some : Stmt := top 51
abbrev t__law_straight : Stmt := top 53
abbrev t__law_take : Stmt := top 49
abbrev t_are_unlike : Stmt := top 26
abbrev t_is_name : Stmt := top 25
abbrev t_law : Stmt := top 58
abbrev t_load_of : Stmt := top 5
abbrev t_loads : Stmt := top 11
abbrev t_met : Stmt := top 3
abbrev t_number_told : Stmt := top 27
abbrev t_read_lines : Stmt := top 45
abbrev t_ring_by : Stmt := top 6
abbrev t_span : Stmt := top 12
abbrev t_turned : Stmt := top 8
abbrev t_uneven_by : Stmt := top 7
abbrev t_uneven_ring : Stmt := top 9
abbrev t_walk_to : Stmt := top 4
theorem ok_Box___getitem__ : s_Box___getitem__.ok dat = true := by decide +kernel
theorem ok_Box___init__ : s_Box___init__.ok dat = true := by decide +kernel
theorem ok_Box___len__ : s_Box___len__.ok dat = true := by decide +kernel
theorem ok_Box_first : s_Box_first.ok dat = true := by decide +kernel
theorem ok_Box_gain : s_Box_gain.ok dat = true := by decide +kernel
theorem ok_Box_places : s_Box_places.ok dat = true := by decide +kernel
theorem ok_Reading___init__ : s_Reading___init__.ok dat = true := by decide +kernel
theorem ok_Reading_is_formed : s_Reading_is_formed.ok dat = true := by decide +kernel
theorem ok_Reading_is_line : s_Reading_is_line.ok dat = true := by decide +kernel
theorem ok_Reading_is_place : s_Reading_is_place.ok dat = true := by decide +kernel
theorem ok_Reading_is_step : s_Reading_is_step.ok dat = true := by decide +kernel
theorem ok_Reading_is_taken : s_Reading_is_taken.ok dat = true := by decide +kernel
theorem ok_Reading_names : s_Reading_names.ok dat = true := by decide +kernel
theorem ok__law_are_straight_right : s__law_are_straight_right.ok dat = true := by decide +kernel
theorem ok__law_are_ways_right : s__law_are_ways_right.ok dat = true := by decide +kernel
theorem ok__law_cells : s__law_cells.ok dat = true := by decide +kernel
theorem ok__law_of : s__law_of.ok dat = true := by decide +kernel
theorem ok__law_place : s__law_place.ok dat = true := by decide +kernel
theorem ok__law_pot : s__law_pot.ok dat = true := by decide +kernel
theorem ok__law_right : s__law_right.ok dat = true := by decide +kernel
theorem ok__law_some : s__law_some.ok dat = true := by decide +kernel
theorem ok__law_straight : s__law_straight.ok dat = true := by decide +kernel
theorem ok__law_take : s__law_take.ok dat = true := by decide +kernel
theorem ok_are_unlike : s_are_unlike.ok dat = true := by decide +kernel
theorem ok_is_name : s_is_name.ok dat = true := by decide +kernel
theorem ok_law : s_law.ok dat = true := by decide +kernel
theorem ok_load_of : s_load_of.ok dat = true := by decide +kernel
theorem ok_loads : s_loads.ok dat = true := by decide +kernel
theorem ok_met : s_met.ok dat = true := by decide +kernel
theorem ok_number_told : s_number_told.ok dat = true := by decide +kernel
theorem ok_read_lines : s_read_lines.ok dat = true := by decide +kernel
theorem ok_ring_by : s_ring_by.ok dat = true := by decide +kernel
theorem ok_span : s_span.ok dat = true := by decide +kernel
theorem ok_turned : s_turned.ok dat = true := by decide +kernel
theorem ok_uneven_by : s_uneven_by.ok dat = true := by decide +kernel
theorem ok_uneven_ring : s_uneven_ring.ok dat = true := by decide +kernel
theorem ok_walk_to : s_walk_to.ok dat = true := by decide +kernel
set_option maxHeartbeats 4000000 in
theorem all_mk {l : PySem.W.OpenLaw} {w : World} {K : PySem.W.Frag} {mg : Str → Option Value} {h base : Heap} {fa C0 C1 f0 f1 f2 f3 f4 f5 f6 f7 f8 f9 f10 f11 f12 f13 f14 f15 f16 f17 f18 f19 f20 f21 f22 f23 f24 f25 f26 f27 f28 f29 f30 f31 f32 f33 f34 f35 f36 : Addr} (X : K.In h) (G : h.Ns mainGlobals mg) (hfa : mg "law" = some (.ref fa))
    {odf0 anf0 : Option Addr} {slf0 : Array (Option Value)} {ocf0 kVf0 dcf0 pmf0 cdf0 ctf0 : Value}
    {odf1 anf1 : Option Addr} {slf1 : Array (Option Value)} {ocf1 kVf1 dcf1 pmf1 cdf1 ctf1 : Value}
    {odf2 anf2 : Option Addr} {slf2 : Array (Option Value)} {ocf2 kVf2 dcf2 pmf2 cdf2 ctf2 : Value}
    {p_f3 : Addr} {rest_f3 : List Value}
    {odf3 anf3 : Option Addr} {slf3 : Array (Option Value)} {ocf3 kVf3 dcf3 pmf3 cdf3 ctf3 : Value}
    {odf4 anf4 : Option Addr} {slf4 : Array (Option Value)} {ocf4 kVf4 dcf4 pmf4 cdf4 ctf4 : Value}
    {p_f5 : Addr} {rest_f5 : List Value}
    {odf5 anf5 : Option Addr} {slf5 : Array (Option Value)} {ocf5 kVf5 dcf5 pmf5 cdf5 ctf5 : Value}
    {odf6 anf6 : Option Addr} {slf6 : Array (Option Value)} {ocf6 kVf6 dcf6 pmf6 cdf6 ctf6 : Value}
    {odf7 anf7 : Option Addr} {slf7 : Array (Option Value)} {ocf7 kVf7 dcf7 pmf7 cdf7 ctf7 : Value}
    {odf8 anf8 : Option Addr} {slf8 : Array (Option Value)} {ocf8 kVf8 dcf8 pmf8 cdf8 ctf8 : Value}
    {odf9 anf9 : Option Addr} {slf9 : Array (Option Value)} {ocf9 kVf9 dcf9 pmf9 cdf9 ctf9 : Value}
    {odf10 anf10 : Option Addr} {slf10 : Array (Option Value)} {ocf10 kVf10 dcf10 pmf10 cdf10 ctf10 : Value}
    {odf11 anf11 : Option Addr} {slf11 : Array (Option Value)} {ocf11 kVf11 dcf11 pmf11 cdf11 ctf11 : Value}
    {odf12 anf12 : Option Addr} {slf12 : Array (Option Value)} {ocf12 kVf12 dcf12 pmf12 cdf12 ctf12 : Value}
    {odf13 anf13 : Option Addr} {slf13 : Array (Option Value)} {ocf13 kVf13 dcf13 pmf13 cdf13 ctf13 : Value}
    {odf14 anf14 : Option Addr} {slf14 : Array (Option Value)} {ocf14 kVf14 dcf14 pmf14 cdf14 ctf14 : Value}
    {odf15 anf15 : Option Addr} {slf15 : Array (Option Value)} {ocf15 kVf15 dcf15 pmf15 cdf15 ctf15 : Value}
    {odf16 anf16 : Option Addr} {slf16 : Array (Option Value)} {ocf16 kVf16 dcf16 pmf16 cdf16 ctf16 : Value}
    {odf17 anf17 : Option Addr} {slf17 : Array (Option Value)} {ocf17 kVf17 dcf17 pmf17 cdf17 ctf17 : Value}
    {odf18 anf18 : Option Addr} {slf18 : Array (Option Value)} {ocf18 kVf18 dcf18 pmf18 cdf18 ctf18 : Value}
    {odf19 anf19 : Option Addr} {slf19 : Array (Option Value)} {ocf19 kVf19 dcf19 pmf19 cdf19 ctf19 : Value}
    {odf20 anf20 : Option Addr} {slf20 : Array (Option Value)} {ocf20 kVf20 dcf20 pmf20 cdf20 ctf20 : Value}
    {odf21 anf21 : Option Addr} {slf21 : Array (Option Value)} {ocf21 kVf21 dcf21 pmf21 cdf21 ctf21 : Value}
    {odf22 anf22 : Option Addr} {slf22 : Array (Option Value)} {ocf22 kVf22 dcf22 pmf22 cdf22 ctf22 : Value}
    {odf23 anf23 : Option Addr} {slf23 : Array (Option Value)} {ocf23 kVf23 dcf23 pmf23 cdf23 ctf23 : Value}
    {odf24 anf24 : Option Addr} {slf24 : Array (Option Value)} {ocf24 kVf24 dcf24 pmf24 cdf24 ctf24 : Value}
    {odf25 anf25 : Option Addr} {slf25 : Array (Option Value)} {ocf25 kVf25 dcf25 pmf25 cdf25 ctf25 : Value}
    {odf26 anf26 : Option Addr} {slf26 : Array (Option Value)} {ocf26 kVf26 dcf26 pmf26 cdf26 ctf26 : Value}
    {odf27 anf27 : Option Addr} {slf27 : Array (Option Value)} {ocf27 kVf27 dcf27 pmf27 cdf27 ctf27 : Value}
    {odf28 anf28 : Option Addr} {slf28 : Array (Option Value)} {ocf28 kVf28 dcf28 pmf28 cdf28 ctf28 : Value}
    {odf29 anf29 : Option Addr} {slf29 : Array (Option Value)} {ocf29 kVf29 dcf29 pmf29 cdf29 ctf29 : Value}
    {odf30 anf30 : Option Addr} {slf30 : Array (Option Value)} {ocf30 kVf30 dcf30 pmf30 cdf30 ctf30 : Value}
    {odf31 anf31 : Option Addr} {slf31 : Array (Option Value)} {ocf31 kVf31 dcf31 pmf31 cdf31 ctf31 : Value}
    {odf32 anf32 : Option Addr} {slf32 : Array (Option Value)} {ocf32 kVf32 dcf32 pmf32 cdf32 ctf32 : Value}
    {odf33 anf33 : Option Addr} {slf33 : Array (Option Value)} {ocf33 kVf33 dcf33 pmf33 cdf33 ctf33 : Value}
    {odf34 anf34 : Option Addr} {slf34 : Array (Option Value)} {ocf34 kVf34 dcf34 pmf34 cdf34 ctf34 : Value}
    {odf35 anf35 : Option Addr} {slf35 : Array (Option Value)} {ocf35 kVf35 dcf35 pmf35 cdf35 ctf35 : Value}
    {odf36 anf36 : Option Addr} {slf36 : Array (Option Value)} {ocf36 kVf36 dcf36 pmf36 cdf36 ctf36 : Value}
    {tk0 : Tok}
    {tk1 : Tok}
    {tk2 : Tok}
    {tk3 : Tok}
    {tk4 : Tok}
    {tk5 : Tok}
    {tk6 : Tok}
    {tk7 : Tok}
    {tk8 : Tok}
    {tk9 : Tok}
    {tk10 : Tok}
    {tk11 : Tok}
    {tk12 : Tok}
    {tk13 : Tok}
    {tk14 : Tok}
    {tk15 : Tok}
    {tk16 : Tok}
    {tk17 : Tok}
    {tk18 : Tok}
    {tk19 : Tok}
    {tk20 : Tok}
    {tk21 : Tok}
    (aC0 : PySem.W.nsIn K mainGlobals "Box" = some (some (.ref C0)))
    (pgC0 : PySem.W.plainGet K C0 Str.empty = true)
    (hdC0 : PySem.W.hasDictIn K C0 = true)
    (poC0 : PySem.W.plainOver K C0 = true)
    (saC0 : PySem.W.findIn K (.ref C0) "__setattr__" = some (some (.builtin "object.__setattr__")))
    (mkC0 : PySem.W.makesIn K C0 = true)
    (kcC0 : PySem.W.keepIn K (.ref C0) = true)
    (aC1 : PySem.W.nsIn K mainGlobals "Reading" = some (some (.ref C1)))
    (pgC1 : PySem.W.plainGet K C1 Str.empty = true)
    (hdC1 : PySem.W.hasDictIn K C1 = true)
    (poC1 : PySem.W.plainOver K C1 = true)
    (saC1 : PySem.W.findIn K (.ref C1) "__setattr__" = some (some (.builtin "object.__setattr__")))
    (mkC1 : PySem.W.makesIn K C1 = true)
    (kcC1 : PySem.W.keepIn K (.ref C1) = true)
    (af0 : PySem.W.findIn K (.ref C0) "__getitem__" = some (some (.ref f0)))
    (if0 : PySem.W.isFn K (.ref f0) = true)
    (nf0 : PySem.W.fnIn K f0 = true)
    (lf0 : K.lookup f0 = some ⟨ocf0, odf0, .func (PySem.W.fnOf "__getitem__" "Box.__getitem__" (defArgs t_Box___getitem__) (defBody t_Box___getitem__) (defScope t_Box___getitem__) .none kVf0 dcf0 pmf0 anf0 cdf0 ctf0), slf0⟩)
    (cf0 : PySem.W.codeIn K cdf0 "Box.__getitem__" = true)
    (kf0 : PySem.W.keepIn K (.ref f0) = true)
    (af1 : PySem.W.findIn K (.ref C0) "__init__" = some (some (.ref f1)))
    (if1 : PySem.W.isFn K (.ref f1) = true)
    (nf1 : PySem.W.fnIn K f1 = true)
    (lf1 : K.lookup f1 = some ⟨ocf1, odf1, .func (PySem.W.fnOf "__init__" "Box.__init__" (defArgs t_Box___init__) (defBody t_Box___init__) (defScope t_Box___init__) .none kVf1 dcf1 pmf1 anf1 cdf1 ctf1), slf1⟩)
    (cf1 : PySem.W.codeIn K cdf1 "Box.__init__" = true)
    (kf1 : PySem.W.keepIn K (.ref f1) = true)
    (af2 : PySem.W.findIn K (.ref C0) "__len__" = some (some (.ref f2)))
    (if2 : PySem.W.isFn K (.ref f2) = true)
    (nf2 : PySem.W.fnIn K f2 = true)
    (lf2 : K.lookup f2 = some ⟨ocf2, odf2, .func (PySem.W.fnOf "__len__" "Box.__len__" (defArgs t_Box___len__) (defBody t_Box___len__) (defScope t_Box___len__) .none kVf2 dcf2 pmf2 anf2 cdf2 ctf2), slf2⟩)
    (cf2 : PySem.W.codeIn K cdf2 "Box.__len__" = true)
    (kf2 : PySem.W.keepIn K (.ref f2) = true)
    (af3 : PySem.W.findIn K (.ref C0) "first" = some (some (.ref p_f3)))
    (gf3 : PySem.W.specialIn K (.ref p_f3) "__get__" = some (some (.builtin "property.__get__")))
    (tf3 : PySem.W.takesIn K (.ref p_f3) = some true)
    (rf3 : PySem.W.recIn K p_f3 "property" = some (.ref f3 :: rest_f3))
    (lf3 : K.lookup f3 = some ⟨ocf3, odf3, .func (PySem.W.fnOf "first" "Box.first" (defArgs t_Box_first) (defBody t_Box_first) (defScope t_Box_first) .none kVf3 dcf3 pmf3 anf3 cdf3 ctf3), slf3⟩)
    (cf3 : PySem.W.codeIn K cdf3 "Box.first" = true)
    (kf3 : PySem.W.keepIn K (.ref f3) = true)
    (af4 : PySem.W.findIn K (.ref C0) "gain" = some (some (.ref f4)))
    (if4 : PySem.W.isFn K (.ref f4) = true)
    (nf4 : PySem.W.fnIn K f4 = true)
    (lf4 : K.lookup f4 = some ⟨ocf4, odf4, .func (PySem.W.fnOf "gain" "Box.gain" (defArgs t_Box_gain) (defBody t_Box_gain) (defScope t_Box_gain) .none kVf4 dcf4 pmf4 anf4 cdf4 ctf4), slf4⟩)
    (cf4 : PySem.W.codeIn K cdf4 "Box.gain" = true)
    (kf4 : PySem.W.keepIn K (.ref f4) = true)
    (af5 : PySem.W.findIn K (.ref C0) "places" = some (some (.ref p_f5)))
    (gf5 : PySem.W.specialIn K (.ref p_f5) "__get__" = some (some (.builtin "property.__get__")))
    (tf5 : PySem.W.takesIn K (.ref p_f5) = some true)
    (rf5 : PySem.W.recIn K p_f5 "property" = some (.ref f5 :: rest_f5))
    (lf5 : K.lookup f5 = some ⟨ocf5, odf5, .func (PySem.W.fnOf "places" "Box.places" (defArgs t_Box_places) (defBody t_Box_places) (defScope t_Box_places) .none kVf5 dcf5 pmf5 anf5 cdf5 ctf5), slf5⟩)
    (cf5 : PySem.W.codeIn K cdf5 "Box.places" = true)
    (kf5 : PySem.W.keepIn K (.ref f5) = true)
    (af6 : PySem.W.findIn K (.ref C1) "__init__" = some (some (.ref f6)))
    (if6 : PySem.W.isFn K (.ref f6) = true)
    (nf6 : PySem.W.fnIn K f6 = true)
    (lf6 : K.lookup f6 = some ⟨ocf6, odf6, .func (PySem.W.fnOf "__init__" "Reading.__init__" (defArgs t_Reading___init__) (defBody t_Reading___init__) (defScope t_Reading___init__) .none kVf6 dcf6 pmf6 anf6 cdf6 ctf6), slf6⟩)
    (cf6 : PySem.W.codeIn K cdf6 "Reading.__init__" = true)
    (kf6 : PySem.W.keepIn K (.ref f6) = true)
    (af7 : PySem.W.findIn K (.ref C1) "is_formed" = some (some (.ref f7)))
    (if7 : PySem.W.isFn K (.ref f7) = true)
    (nf7 : PySem.W.fnIn K f7 = true)
    (lf7 : K.lookup f7 = some ⟨ocf7, odf7, .func (PySem.W.fnOf "is_formed" "Reading.is_formed" (defArgs t_Reading_is_formed) (defBody t_Reading_is_formed) (defScope t_Reading_is_formed) .none kVf7 dcf7 pmf7 anf7 cdf7 ctf7), slf7⟩)
    (cf7 : PySem.W.codeIn K cdf7 "Reading.is_formed" = true)
    (kf7 : PySem.W.keepIn K (.ref f7) = true)
    (af8 : PySem.W.findIn K (.ref C1) "is_line" = some (some (.ref f8)))
    (if8 : PySem.W.isFn K (.ref f8) = true)
    (nf8 : PySem.W.fnIn K f8 = true)
    (lf8 : K.lookup f8 = some ⟨ocf8, odf8, .func (PySem.W.fnOf "is_line" "Reading.is_line" (defArgs t_Reading_is_line) (defBody t_Reading_is_line) (defScope t_Reading_is_line) .none kVf8 dcf8 pmf8 anf8 cdf8 ctf8), slf8⟩)
    (cf8 : PySem.W.codeIn K cdf8 "Reading.is_line" = true)
    (kf8 : PySem.W.keepIn K (.ref f8) = true)
    (af9 : PySem.W.findIn K (.ref C1) "is_place" = some (some (.ref f9)))
    (if9 : PySem.W.isFn K (.ref f9) = true)
    (nf9 : PySem.W.fnIn K f9 = true)
    (lf9 : K.lookup f9 = some ⟨ocf9, odf9, .func (PySem.W.fnOf "is_place" "Reading.is_place" (defArgs t_Reading_is_place) (defBody t_Reading_is_place) (defScope t_Reading_is_place) .none kVf9 dcf9 pmf9 anf9 cdf9 ctf9), slf9⟩)
    (cf9 : PySem.W.codeIn K cdf9 "Reading.is_place" = true)
    (kf9 : PySem.W.keepIn K (.ref f9) = true)
    (af10 : PySem.W.findIn K (.ref C1) "is_step" = some (some (.ref f10)))
    (if10 : PySem.W.isFn K (.ref f10) = true)
    (nf10 : PySem.W.fnIn K f10 = true)
    (lf10 : K.lookup f10 = some ⟨ocf10, odf10, .func (PySem.W.fnOf "is_step" "Reading.is_step" (defArgs t_Reading_is_step) (defBody t_Reading_is_step) (defScope t_Reading_is_step) .none kVf10 dcf10 pmf10 anf10 cdf10 ctf10), slf10⟩)
    (cf10 : PySem.W.codeIn K cdf10 "Reading.is_step" = true)
    (kf10 : PySem.W.keepIn K (.ref f10) = true)
    (af11 : PySem.W.findIn K (.ref C1) "is_taken" = some (some (.ref f11)))
    (if11 : PySem.W.isFn K (.ref f11) = true)
    (nf11 : PySem.W.fnIn K f11 = true)
    (lf11 : K.lookup f11 = some ⟨ocf11, odf11, .func (PySem.W.fnOf "is_taken" "Reading.is_taken" (defArgs t_Reading_is_taken) (defBody t_Reading_is_taken) (defScope t_Reading_is_taken) .none kVf11 dcf11 pmf11 anf11 cdf11 ctf11), slf11⟩)
    (cf11 : PySem.W.codeIn K cdf11 "Reading.is_taken" = true)
    (kf11 : PySem.W.keepIn K (.ref f11) = true)
    (af12 : PySem.W.findIn K (.ref C1) "names" = some (some (.ref f12)))
    (if12 : PySem.W.isFn K (.ref f12) = true)
    (nf12 : PySem.W.fnIn K f12 = true)
    (lf12 : K.lookup f12 = some ⟨ocf12, odf12, .func (PySem.W.fnOf "names" "Reading.names" (defArgs t_Reading_names) (defBody t_Reading_names) (defScope t_Reading_names) .none kVf12 dcf12 pmf12 anf12 cdf12 ctf12), slf12⟩)
    (cf12 : PySem.W.codeIn K cdf12 "Reading.names" = true)
    (kf12 : PySem.W.keepIn K (.ref f12) = true)
    (af13 : PySem.W.nsIn K mainGlobals "_law_are_straight_right" = some (some (.ref f13)))
    (lf13 : K.lookup f13 = some ⟨ocf13, odf13, .func (PySem.W.fnOf "_law_are_straight_right" "_law_are_straight_right" (defArgs t__law_are_straight_right) (defBody t__law_are_straight_right) (defScope t__law_are_straight_right) .none kVf13 dcf13 pmf13 anf13 cdf13 ctf13), slf13⟩)
    (cf13 : PySem.W.codeIn K cdf13 "_law_are_straight_right" = true)
    (kf13 : PySem.W.keepIn K (.ref f13) = true)
    (af14 : PySem.W.nsIn K mainGlobals "_law_are_ways_right" = some (some (.ref f14)))
    (lf14 : K.lookup f14 = some ⟨ocf14, odf14, .func (PySem.W.fnOf "_law_are_ways_right" "_law_are_ways_right" (defArgs t__law_are_ways_right) (defBody t__law_are_ways_right) (defScope t__law_are_ways_right) .none kVf14 dcf14 pmf14 anf14 cdf14 ctf14), slf14⟩)
    (cf14 : PySem.W.codeIn K cdf14 "_law_are_ways_right" = true)
    (kf14 : PySem.W.keepIn K (.ref f14) = true)
    (af15 : PySem.W.nsIn K mainGlobals "_law_cells" = some (some (.ref f15)))
    (lf15 : K.lookup f15 = some ⟨ocf15, odf15, .func (PySem.W.fnOf "_law_cells" "_law_cells" (defArgs t__law_cells) (defBody t__law_cells) (defScope t__law_cells) .none kVf15 dcf15 pmf15 anf15 cdf15 ctf15), slf15⟩)
    (cf15 : PySem.W.codeIn K cdf15 "_law_cells" = true)
    (kf15 : PySem.W.keepIn K (.ref f15) = true)
    (af16 : PySem.W.nsIn K mainGlobals "_law_of" = some (some (.ref f16)))
    (lf16 : K.lookup f16 = some ⟨ocf16, odf16, .func (PySem.W.fnOf "_law_of" "_law_of" (defArgs t__law_of) (defBody t__law_of) (defScope t__law_of) .none kVf16 dcf16 pmf16 anf16 cdf16 ctf16), slf16⟩)
    (cf16 : PySem.W.codeIn K cdf16 "_law_of" = true)
    (kf16 : PySem.W.keepIn K (.ref f16) = true)
    (af17 : PySem.W.nsIn K mainGlobals "_law_place" = some (some (.ref f17)))
    (lf17 : K.lookup f17 = some ⟨ocf17, odf17, .func (PySem.W.fnOf "_law_place" "_law_place" (defArgs t__law_place) (defBody t__law_place) (defScope t__law_place) .none kVf17 dcf17 pmf17 anf17 cdf17 ctf17), slf17⟩)
    (cf17 : PySem.W.codeIn K cdf17 "_law_place" = true)
    (kf17 : PySem.W.keepIn K (.ref f17) = true)
    (af18 : PySem.W.nsIn K mainGlobals "_law_pot" = some (some (.ref f18)))
    (lf18 : K.lookup f18 = some ⟨ocf18, odf18, .func (PySem.W.fnOf "_law_pot" "_law_pot" (defArgs t__law_pot) (defBody t__law_pot) (defScope t__law_pot) .none kVf18 dcf18 pmf18 anf18 cdf18 ctf18), slf18⟩)
    (cf18 : PySem.W.codeIn K cdf18 "_law_pot" = true)
    (kf18 : PySem.W.keepIn K (.ref f18) = true)
    (af19 : PySem.W.nsIn K mainGlobals "_law_right" = some (some (.ref f19)))
    (lf19 : K.lookup f19 = some ⟨ocf19, odf19, .func (PySem.W.fnOf "_law_right" "_law_right" (defArgs t__law_right) (defBody t__law_right) (defScope t__law_right) .none kVf19 dcf19 pmf19 anf19 cdf19 ctf19), slf19⟩)
    (cf19 : PySem.W.codeIn K cdf19 "_law_right" = true)
    (kf19 : PySem.W.keepIn K (.ref f19) = true)
    (af20 : PySem.W.nsIn K mainGlobals "_law_some" = some (some (.ref f20)))
    (lf20 : K.lookup f20 = some ⟨ocf20, odf20, .func (PySem.W.fnOf "_law_some" "_law_some" (defArgs t__law_some) (defBody t__law_some) (defScope t__law_some) .none kVf20 dcf20 pmf20 anf20 cdf20 ctf20), slf20⟩)
    (cf20 : PySem.W.codeIn K cdf20 "_law_some" = true)
    (kf20 : PySem.W.keepIn K (.ref f20) = true)
    (af21 : PySem.W.nsIn K mainGlobals "_law_straight" = some (some (.ref f21)))
    (lf21 : K.lookup f21 = some ⟨ocf21, odf21, .func (PySem.W.fnOf "_law_straight" "_law_straight" (defArgs t__law_straight) (defBody t__law_straight) (defScope t__law_straight) .none kVf21 dcf21 pmf21 anf21 cdf21 ctf21), slf21⟩)
    (cf21 : PySem.W.codeIn K cdf21 "_law_straight" = true)
    (kf21 : PySem.W.keepIn K (.ref f21) = true)
    (af22 : PySem.W.nsIn K mainGlobals "_law_take" = some (some (.ref f22)))
    (lf22 : K.lookup f22 = some ⟨ocf22, odf22, .func (PySem.W.fnOf "_law_take" "_law_take" (defArgs t__law_take) (defBody t__law_take) (defScope t__law_take) .none kVf22 dcf22 pmf22 anf22 cdf22 ctf22), slf22⟩)
    (cf22 : PySem.W.codeIn K cdf22 "_law_take" = true)
    (kf22 : PySem.W.keepIn K (.ref f22) = true)
    (af23 : PySem.W.nsIn K mainGlobals "are_unlike" = some (some (.ref f23)))
    (lf23 : K.lookup f23 = some ⟨ocf23, odf23, .func (PySem.W.fnOf "are_unlike" "are_unlike" (defArgs t_are_unlike) (defBody t_are_unlike) (defScope t_are_unlike) .none kVf23 dcf23 pmf23 anf23 cdf23 ctf23), slf23⟩)
    (cf23 : PySem.W.codeIn K cdf23 "are_unlike" = true)
    (kf23 : PySem.W.keepIn K (.ref f23) = true)
    (af24 : PySem.W.nsIn K mainGlobals "is_name" = some (some (.ref f24)))
    (lf24 : K.lookup f24 = some ⟨ocf24, odf24, .func (PySem.W.fnOf "is_name" "is_name" (defArgs t_is_name) (defBody t_is_name) (defScope t_is_name) .none kVf24 dcf24 pmf24 anf24 cdf24 ctf24), slf24⟩)
    (cf24 : PySem.W.codeIn K cdf24 "is_name" = true)
    (kf24 : PySem.W.keepIn K (.ref f24) = true)
    (af25 : PySem.W.nsIn K mainGlobals "law" = some (some (.ref f25)))
    (lf25 : K.lookup f25 = some ⟨ocf25, odf25, .func (PySem.W.fnOf "law" "law" (defArgs t_law) (defBody t_law) (defScope t_law) .none kVf25 dcf25 pmf25 anf25 cdf25 ctf25), slf25⟩)
    (cf25 : PySem.W.codeIn K cdf25 "law" = true)
    (kf25 : PySem.W.keepIn K (.ref f25) = true)
    (af26 : PySem.W.nsIn K mainGlobals "load_of" = some (some (.ref f26)))
    (lf26 : K.lookup f26 = some ⟨ocf26, odf26, .func (PySem.W.fnOf "load_of" "load_of" (defArgs t_load_of) (defBody t_load_of) (defScope t_load_of) .none kVf26 dcf26 pmf26 anf26 cdf26 ctf26), slf26⟩)
    (cf26 : PySem.W.codeIn K cdf26 "load_of" = true)
    (kf26 : PySem.W.keepIn K (.ref f26) = true)
    (af27 : PySem.W.nsIn K mainGlobals "loads" = some (some (.ref f27)))
    (lf27 : K.lookup f27 = some ⟨ocf27, odf27, .func (PySem.W.fnOf "loads" "loads" (defArgs t_loads) (defBody t_loads) (defScope t_loads) .none kVf27 dcf27 pmf27 anf27 cdf27 ctf27), slf27⟩)
    (cf27 : PySem.W.codeIn K cdf27 "loads" = true)
    (kf27 : PySem.W.keepIn K (.ref f27) = true)
    (af28 : PySem.W.nsIn K mainGlobals "met" = some (some (.ref f28)))
    (lf28 : K.lookup f28 = some ⟨ocf28, odf28, .func (PySem.W.fnOf "met" "met" (defArgs t_met) (defBody t_met) (defScope t_met) .none kVf28 dcf28 pmf28 anf28 cdf28 ctf28), slf28⟩)
    (cf28 : PySem.W.codeIn K cdf28 "met" = true)
    (kf28 : PySem.W.keepIn K (.ref f28) = true)
    (af29 : PySem.W.nsIn K mainGlobals "number_told" = some (some (.ref f29)))
    (lf29 : K.lookup f29 = some ⟨ocf29, odf29, .func (PySem.W.fnOf "number_told" "number_told" (defArgs t_number_told) (defBody t_number_told) (defScope t_number_told) .none kVf29 dcf29 pmf29 anf29 cdf29 ctf29), slf29⟩)
    (cf29 : PySem.W.codeIn K cdf29 "number_told" = true)
    (kf29 : PySem.W.keepIn K (.ref f29) = true)
    (af30 : PySem.W.nsIn K mainGlobals "read_lines" = some (some (.ref f30)))
    (lf30 : K.lookup f30 = some ⟨ocf30, odf30, .func (PySem.W.fnOf "read_lines" "read_lines" (defArgs t_read_lines) (defBody t_read_lines) (defScope t_read_lines) .none kVf30 dcf30 pmf30 anf30 cdf30 ctf30), slf30⟩)
    (cf30 : PySem.W.codeIn K cdf30 "read_lines" = true)
    (kf30 : PySem.W.keepIn K (.ref f30) = true)
    (af31 : PySem.W.nsIn K mainGlobals "ring_by" = some (some (.ref f31)))
    (lf31 : K.lookup f31 = some ⟨ocf31, odf31, .func (PySem.W.fnOf "ring_by" "ring_by" (defArgs t_ring_by) (defBody t_ring_by) (defScope t_ring_by) .none kVf31 dcf31 pmf31 anf31 cdf31 ctf31), slf31⟩)
    (cf31 : PySem.W.codeIn K cdf31 "ring_by" = true)
    (kf31 : PySem.W.keepIn K (.ref f31) = true)
    (af32 : PySem.W.nsIn K mainGlobals "span" = some (some (.ref f32)))
    (lf32 : K.lookup f32 = some ⟨ocf32, odf32, .func (PySem.W.fnOf "span" "span" (defArgs t_span) (defBody t_span) (defScope t_span) .none kVf32 dcf32 pmf32 anf32 cdf32 ctf32), slf32⟩)
    (cf32 : PySem.W.codeIn K cdf32 "span" = true)
    (kf32 : PySem.W.keepIn K (.ref f32) = true)
    (af33 : PySem.W.nsIn K mainGlobals "turned" = some (some (.ref f33)))
    (lf33 : K.lookup f33 = some ⟨ocf33, odf33, .func (PySem.W.fnOf "turned" "turned" (defArgs t_turned) (defBody t_turned) (defScope t_turned) .none kVf33 dcf33 pmf33 anf33 cdf33 ctf33), slf33⟩)
    (cf33 : PySem.W.codeIn K cdf33 "turned" = true)
    (kf33 : PySem.W.keepIn K (.ref f33) = true)
    (af34 : PySem.W.nsIn K mainGlobals "uneven_by" = some (some (.ref f34)))
    (lf34 : K.lookup f34 = some ⟨ocf34, odf34, .func (PySem.W.fnOf "uneven_by" "uneven_by" (defArgs t_uneven_by) (defBody t_uneven_by) (defScope t_uneven_by) .none kVf34 dcf34 pmf34 anf34 cdf34 ctf34), slf34⟩)
    (cf34 : PySem.W.codeIn K cdf34 "uneven_by" = true)
    (kf34 : PySem.W.keepIn K (.ref f34) = true)
    (af35 : PySem.W.nsIn K mainGlobals "uneven_ring" = some (some (.ref f35)))
    (lf35 : K.lookup f35 = some ⟨ocf35, odf35, .func (PySem.W.fnOf "uneven_ring" "uneven_ring" (defArgs t_uneven_ring) (defBody t_uneven_ring) (defScope t_uneven_ring) .none kVf35 dcf35 pmf35 anf35 cdf35 ctf35), slf35⟩)
    (cf35 : PySem.W.codeIn K cdf35 "uneven_ring" = true)
    (kf35 : PySem.W.keepIn K (.ref f35) = true)
    (af36 : PySem.W.nsIn K mainGlobals "walk_to" = some (some (.ref f36)))
    (lf36 : K.lookup f36 = some ⟨ocf36, odf36, .func (PySem.W.fnOf "walk_to" "walk_to" (defArgs t_walk_to) (defBody t_walk_to) (defScope t_walk_to) .none kVf36 dcf36 pmf36 anf36 cdf36 ctf36), slf36⟩)
    (cf36 : PySem.W.codeIn K cdf36 "walk_to" = true)
    (kf36 : PySem.W.keepIn K (.ref f36) = true)
    (v2 : PySem.W.findIn K (.ref C0) "own_text" = some none)
    (v3 : PySem.W.findIn K (.ref C0) "own_ins" = some none)
    (v4 : PySem.W.findIn K (.ref C0) "own_outs" = some none)
    (v5 : PySem.W.findIn K (.ref C0) "own_steps" = some none)
    (v6 : PySem.W.findIn K (.ref C0) "own_weights" = some none)
    (v7 : PySem.W.findIn K (.ref C1) "own_lines" = some none)
    (v8 : PySem.W.findIn K (.ref C1) "steps" = some none)
    (v9 : PySem.W.findIn K (.ref C1) "place" = some none)
    (v10 : PySem.W.findIn K (.ref C1) "leads" = some none)
    (e0 : PySem.W.nsIn K mainGlobals "TURN_WORDS_rings" = some (some (.int 2 tk0)))
    (e1 : PySem.W.nsIn K mainGlobals "BLANK" = some (some (.str (Str.ofString " ") tk1)))
    (e2 : PySem.W.nsIn K mainGlobals "FEED" = some (some (.str (Str.ofString "\n") tk2)))
    (e3 : PySem.W.nsIn K mainGlobals "MOST_SIGNS" = some (some (.int 8 tk3)))
    (e4 : PySem.W.nsIn K mainGlobals "MOST_FIGURES" = some (some (.int 9 tk4)))
    (e5 : PySem.W.nsIn K mainGlobals "SIGNS" = some (some (.str (Str.ofString "abcdefghijklmnopqrstuvwxyz") tk5)))
    (e6 : PySem.W.nsIn K mainGlobals "FIGURES" = some (some (.str (Str.ofString "0123456789") tk6)))
    (e7 : PySem.W.nsIn K mainGlobals "IN" = some (some (.str (Str.ofString "in") tk7)))
    (e8 : PySem.W.nsIn K mainGlobals "OUT" = some (some (.str (Str.ofString "out") tk8)))
    (e9 : PySem.W.nsIn K mainGlobals "AT" = some (some (.str (Str.ofString "at") tk9)))
    (e10 : PySem.W.nsIn K mainGlobals "TAKE" = some (some (.str (Str.ofString "take") tk10)))
    (e11 : PySem.W.nsIn K mainGlobals "PUT" = some (some (.str (Str.ofString "put") tk11)))
    (e12 : PySem.W.nsIn K mainGlobals "TURN" = some (some (.str (Str.ofString "turn") tk12)))
    (e13 : PySem.W.nsIn K mainGlobals "MOST_LINES" = some (some (.int 3 tk13)))
    (e14 : PySem.W.nsIn K mainGlobals "MOST_WORTHS" = some (some (.int 2 tk14)))
    (e15 : PySem.W.nsIn K mainGlobals "MOST_WEIGHT" = some (some (.int 2 tk15)))
    (e16 : PySem.W.nsIn K mainGlobals "MOST_PLACES" = some (some (.int 40 tk16)))
    (e17 : PySem.W.nsIn K mainGlobals "MOST_STEPS" = some (some (.int 80 tk17)))
    (e18 : PySem.W.nsIn K mainGlobals "LINE_WORDS" = some (some (.int 4 tk18)))
    (e19 : PySem.W.nsIn K mainGlobals "STEP_WORDS" = some (some (.int 4 tk19)))
    (e20 : PySem.W.nsIn K mainGlobals "TURN_WORDS_boxes" = some (some (.int 2 tk20)))
    (e21 : PySem.W.nsIn K mainGlobals "AT_WORDS" = some (some (.int 2 tk21)))
    (z0 : PySem.W.nsIn K mainGlobals "len" = some none)
    (z1 : PySem.W.nsIn K mainGlobals "abs" = some none)
    (z2 : PySem.W.nsIn K mainGlobals "int" = some none)
    (z3 : PySem.W.nsIn K mainGlobals "str" = some none)
    (z4 : PySem.W.nsIn K mainGlobals "list" = some none)
    (z5 : PySem.W.nsIn K mainGlobals "tuple" = some none)
    (z6 : PySem.W.nsIn K mainGlobals "max" = some none)
    (z7 : PySem.W.nsIn K mainGlobals "min" = some none)
    (z8 : PySem.W.nsIn K mainGlobals "sum" = some none)
    (z9 : PySem.W.nsIn K mainGlobals "all" = some none)
    (z10 : PySem.W.nsIn K mainGlobals "any" = some none)
    (z11 : PySem.W.nsIn K mainGlobals "sorted" = some none)
    (z12 : PySem.W.nsIn K mainGlobals "repr" = some none)
    (z13 : PySem.W.nsIn K mainGlobals "dict" = some none)
    (z14 : PySem.W.nsIn K mainGlobals "set" = some none)
    (z15 : PySem.W.nsIn K mainGlobals "range" = some none)
    (z16 : PySem.W.nsIn K mainGlobals "isinstance" = some none)
    (z17 : PySem.W.nsIn K mainGlobals "bool" = some none)
    (z18 : PySem.W.nsIn K mainGlobals "enumerate" = some none)
    (z19 : PySem.W.nsIn K mainGlobals "zip" = some none)
    : ∃ T : Tab, T.prog = l.prog ∧ T.w = w ∧ T.K = K ∧ T.mg = mg ∧ T.base = base ∧ T.P = dat.P ∧ TOk T ∧ (∀ q a, T.ad q = some a → DefOk T q a) ∧ T.ad "law" = some fa := by
  have elaw := hfa.symm.trans (PySem.W.mg_of X G af25)
  cases elaw
  let adT : List (String × Addr) := [("Box.__getitem__", f0), ("Box.__init__", f1), ("Box.__len__", f2), ("Box.first", f3), ("Box.gain", f4), ("Box.places", f5), ("Reading.__init__", f6), ("Reading.is_formed", f7), ("Reading.is_line", f8), ("Reading.is_place", f9), ("Reading.is_step", f10), ("Reading.is_taken", f11), ("Reading.names", f12), ("_law_are_straight_right", f13), ("_law_are_ways_right", f14), ("_law_cells", f15), ("_law_of", f16), ("_law_place", f17), ("_law_pot", f18), ("_law_right", f19), ("_law_some", f20), ("_law_straight", f21), ("_law_take", f22), ("are_unlike", f23), ("is_name", f24), ("law", fa), ("load_of", f26), ("loads", f27), ("met", f28), ("number_told", f29), ("read_lines", f30), ("ring_by", f31), ("span", f32), ("turned", f33), ("uneven_by", f34), ("uneven_ring", f35), ("walk_to", f36)]
  let clT : List (String × Addr) := [("Box", C0), ("Reading", C1)]
  have clC0 : Cls K C0 := ⟨pgC0, hdC0, poC0, saC0⟩
  have clC1 : Cls K C1 := ⟨pgC1, hdC1, poC1, saC1⟩
  have Fx : Fax dat K mg adT clT := {
    gl := all_cons (⟨rfl, _, PySem.W.mg_of X G e0, ⟨_, rfl⟩⟩)
      (all_cons (⟨rfl, _, PySem.W.mg_of X G e1, ⟨_, rfl⟩⟩)
      (all_cons (⟨rfl, _, PySem.W.mg_of X G e2, ⟨_, rfl⟩⟩)
      (all_cons (⟨rfl, _, PySem.W.mg_of X G e3, ⟨_, rfl⟩⟩)
      (all_cons (⟨rfl, _, PySem.W.mg_of X G e4, ⟨_, rfl⟩⟩)
      (all_cons (⟨rfl, _, PySem.W.mg_of X G e5, ⟨_, rfl⟩⟩)
      (all_cons (⟨rfl, _, PySem.W.mg_of X G e6, ⟨_, rfl⟩⟩)
      (all_cons (⟨rfl, _, PySem.W.mg_of X G e7, ⟨_, rfl⟩⟩)
      (all_cons (⟨rfl, _, PySem.W.mg_of X G e8, ⟨_, rfl⟩⟩)
      (all_cons (⟨rfl, _, PySem.W.mg_of X G e9, ⟨_, rfl⟩⟩)
      (all_cons (⟨rfl, _, PySem.W.mg_of X G e10, ⟨_, rfl⟩⟩)
      (all_cons (⟨rfl, _, PySem.W.mg_of X G e11, ⟨_, rfl⟩⟩)
      (all_cons (⟨rfl, _, PySem.W.mg_of X G e12, ⟨_, rfl⟩⟩)
      (all_cons (⟨rfl, _, PySem.W.mg_of X G e13, ⟨_, rfl⟩⟩)
      (all_cons (⟨rfl, _, PySem.W.mg_of X G e14, ⟨_, rfl⟩⟩)
      (all_cons (⟨rfl, _, PySem.W.mg_of X G e15, ⟨_, rfl⟩⟩)
      (all_cons (⟨rfl, _, PySem.W.mg_of X G e16, ⟨_, rfl⟩⟩)
      (all_cons (⟨rfl, _, PySem.W.mg_of X G e17, ⟨_, rfl⟩⟩)
      (all_cons (⟨rfl, _, PySem.W.mg_of X G e18, ⟨_, rfl⟩⟩)
      (all_cons (⟨rfl, _, PySem.W.mg_of X G e19, ⟨_, rfl⟩⟩)
      (all_cons (⟨rfl, _, PySem.W.mg_of X G e20, ⟨_, rfl⟩⟩)
      (all_cons (⟨rfl, _, PySem.W.mg_of X G e21, ⟨_, rfl⟩⟩)
      (all_nil))))))))))))))))))))))
    bn := all_cons (PySem.W.mg_none_of X G z0)
      (all_cons (PySem.W.mg_none_of X G z1)
      (all_cons (PySem.W.mg_none_of X G z2)
      (all_cons (PySem.W.mg_none_of X G z3)
      (all_cons (PySem.W.mg_none_of X G z4)
      (all_cons (PySem.W.mg_none_of X G z5)
      (all_cons (PySem.W.mg_none_of X G z6)
      (all_cons (PySem.W.mg_none_of X G z7)
      (all_cons (PySem.W.mg_none_of X G z8)
      (all_cons (PySem.W.mg_none_of X G z9)
      (all_cons (PySem.W.mg_none_of X G z10)
      (all_cons (PySem.W.mg_none_of X G z11)
      (all_cons (PySem.W.mg_none_of X G z12)
      (all_cons (PySem.W.mg_none_of X G z13)
      (all_cons (PySem.W.mg_none_of X G z14)
      (all_cons (PySem.W.mg_none_of X G z15)
      (all_cons (PySem.W.mg_none_of X G z16)
      (all_cons (PySem.W.mg_none_of X G z17)
      (all_cons (PySem.W.mg_none_of X G z18)
      (all_cons (PySem.W.mg_none_of X G z19)
      (all_nil))))))))))))))))))))
    fn := all_cons (⟨_, rfl, PySem.W.mg_of X G af13, kf13⟩)
      (all_cons (⟨_, rfl, PySem.W.mg_of X G af14, kf14⟩)
      (all_cons (⟨_, rfl, PySem.W.mg_of X G af15, kf15⟩)
      (all_cons (⟨_, rfl, PySem.W.mg_of X G af16, kf16⟩)
      (all_cons (⟨_, rfl, PySem.W.mg_of X G af17, kf17⟩)
      (all_cons (⟨_, rfl, PySem.W.mg_of X G af18, kf18⟩)
      (all_cons (⟨_, rfl, PySem.W.mg_of X G af19, kf19⟩)
      (all_cons (⟨_, rfl, PySem.W.mg_of X G af20, kf20⟩)
      (all_cons (⟨_, rfl, PySem.W.mg_of X G af21, kf21⟩)
      (all_cons (⟨_, rfl, PySem.W.mg_of X G af22, kf22⟩)
      (all_cons (⟨_, rfl, PySem.W.mg_of X G af23, kf23⟩)
      (all_cons (⟨_, rfl, PySem.W.mg_of X G af24, kf24⟩)
      (all_cons (⟨_, rfl, PySem.W.mg_of X G af25, kf25⟩)
      (all_cons (⟨_, rfl, PySem.W.mg_of X G af26, kf26⟩)
      (all_cons (⟨_, rfl, PySem.W.mg_of X G af27, kf27⟩)
      (all_cons (⟨_, rfl, PySem.W.mg_of X G af28, kf28⟩)
      (all_cons (⟨_, rfl, PySem.W.mg_of X G af29, kf29⟩)
      (all_cons (⟨_, rfl, PySem.W.mg_of X G af30, kf30⟩)
      (all_cons (⟨_, rfl, PySem.W.mg_of X G af31, kf31⟩)
      (all_cons (⟨_, rfl, PySem.W.mg_of X G af32, kf32⟩)
      (all_cons (⟨_, rfl, PySem.W.mg_of X G af33, kf33⟩)
      (all_cons (⟨_, rfl, PySem.W.mg_of X G af34, kf34⟩)
      (all_cons (⟨_, rfl, PySem.W.mg_of X G af35, kf35⟩)
      (all_cons (⟨_, rfl, PySem.W.mg_of X G af36, kf36⟩)
      (all_nil))))))))))))))))))))))))
    cls := all_cons (⟨_, _, rfl, PySem.W.mg_of X G aC0, rfl⟩)
      (all_cons (⟨_, _, rfl, PySem.W.mg_of X G aC1, rfl⟩)
      (all_nil))
    clk := all_cons (clC0)
      (all_cons (clC1)
      (all_nil))
    mt := all_cons (⟨_, _, rfl, rfl, ⟨af0, if0, kf0⟩, nf0⟩)
      (all_cons (⟨_, _, rfl, rfl, ⟨af1, if1, kf1⟩, nf1⟩)
      (all_cons (⟨_, _, rfl, rfl, ⟨af2, if2, kf2⟩, nf2⟩)
      (all_cons (⟨_, _, rfl, rfl, ⟨af4, if4, kf4⟩, nf4⟩)
      (all_cons (⟨_, _, rfl, rfl, ⟨af6, if6, kf6⟩, nf6⟩)
      (all_cons (⟨_, _, rfl, rfl, ⟨af7, if7, kf7⟩, nf7⟩)
      (all_cons (⟨_, _, rfl, rfl, ⟨af8, if8, kf8⟩, nf8⟩)
      (all_cons (⟨_, _, rfl, rfl, ⟨af9, if9, kf9⟩, nf9⟩)
      (all_cons (⟨_, _, rfl, rfl, ⟨af10, if10, kf10⟩, nf10⟩)
      (all_cons (⟨_, _, rfl, rfl, ⟨af11, if11, kf11⟩, nf11⟩)
      (all_cons (⟨_, _, rfl, rfl, ⟨af12, if12, kf12⟩, nf12⟩)
      (all_nil)))))))))))
    mak := all_cons (fun z => absurd z (by decide))
      (all_cons (fun _ => ⟨_, _, rfl, rfl, ⟨mkC0, af1, if1, kcC0⟩⟩)
      (all_cons (fun z => absurd z (by decide))
      (all_cons (fun z => absurd z (by decide))
      (all_cons (fun _ => ⟨_, _, rfl, rfl, ⟨mkC1, af6, if6, kcC1⟩⟩)
      (all_cons (fun z => absurd z (by decide))
      (all_cons (fun z => absurd z (by decide))
      (all_cons (fun z => absurd z (by decide))
      (all_cons (fun z => absurd z (by decide))
      (all_cons (fun z => absurd z (by decide))
      (all_cons (fun z => absurd z (by decide))
      (all_nil)))))))))))
    pr := all_cons (fun q e => by cases e; exact ⟨_, _, _, rfl, rfl, ⟨af3, gf3, tf3, ⟨_, rf3⟩⟩⟩)
      (all_cons (fun q e => by cases e; exact ⟨_, _, _, rfl, rfl, ⟨af5, gf5, tf5, ⟨_, rf5⟩⟩⟩)
      (all_cons (fun q e => by cases e)
      (all_cons (fun q e => by cases e)
      (all_cons (fun q e => by cases e)
      (all_cons (fun q e => by cases e)
      (all_cons (fun q e => by cases e)
      (all_cons (fun q e => by cases e)
      (all_cons (fun q e => by cases e)
      (all_cons (fun q e => by cases e)
      (all_cons (fun q e => by cases e)
      (all_nil)))))))))))
    fl := all_cons (fun e => by cases e)
      (all_cons (fun e => by cases e)
      (all_cons (fun _ => ⟨_, rfl, v2⟩)
      (all_cons (fun _ => ⟨_, rfl, v3⟩)
      (all_cons (fun _ => ⟨_, rfl, v4⟩)
      (all_cons (fun _ => ⟨_, rfl, v5⟩)
      (all_cons (fun _ => ⟨_, rfl, v6⟩)
      (all_cons (fun _ => ⟨_, rfl, v7⟩)
      (all_cons (fun _ => ⟨_, rfl, v8⟩)
      (all_cons (fun _ => ⟨_, rfl, v9⟩)
      (all_cons (fun _ => ⟨_, rfl, v10⟩)
      (all_nil))))))))))) }
  refine ⟨dat.tab l.prog w K mg base adT clT, rfl, rfl, rfl, rfl, rfl, rfl, tok_of Fx, ?_, rfl⟩
  have D : ∀ p ∈ adT, DefOk (dat.tab l.prog w K mg base adT clT) p.1 p.2 := all_cons (def_at ok_Box___getitem__ lf0 cf0 kf0 fun _ _ _ _ _ _ us hl => match us, hl with | [_, _], _ => rfl)
      (all_cons (def_at ok_Box___init__ lf1 cf1 kf1 fun _ _ _ _ _ _ us hl => match us, hl with | [_, _], _ => rfl)
      (all_cons (def_at ok_Box___len__ lf2 cf2 kf2 fun _ _ _ _ _ _ us hl => match us, hl with | [_], _ => rfl)
      (all_cons (def_at ok_Box_first lf3 cf3 kf3 fun _ _ _ _ _ _ us hl => match us, hl with | [_], _ => rfl)
      (all_cons (def_at ok_Box_gain lf4 cf4 kf4 fun _ _ _ _ _ _ us hl => match us, hl with | [_, _], _ => rfl)
      (all_cons (def_at ok_Box_places lf5 cf5 kf5 fun _ _ _ _ _ _ us hl => match us, hl with | [_], _ => rfl)
      (all_cons (def_at ok_Reading___init__ lf6 cf6 kf6 fun _ _ _ _ _ _ us hl => match us, hl with | [_], _ => rfl)
      (all_cons (def_at ok_Reading_is_formed lf7 cf7 kf7 fun _ _ _ _ _ _ us hl => match us, hl with | [_, _], _ => rfl)
      (all_cons (def_at ok_Reading_is_line lf8 cf8 kf8 fun _ _ _ _ _ _ us hl => match us, hl with | [_, _], _ => rfl)
      (all_cons (def_at ok_Reading_is_place lf9 cf9 kf9 fun _ _ _ _ _ _ us hl => match us, hl with | [_, _], _ => rfl)
      (all_cons (def_at ok_Reading_is_step lf10 cf10 kf10 fun _ _ _ _ _ _ us hl => match us, hl with | [_, _, _], _ => rfl)
      (all_cons (def_at ok_Reading_is_taken lf11 cf11 kf11 fun _ _ _ _ _ _ us hl => match us, hl with | [_, _, _], _ => rfl)
      (all_cons (def_at ok_Reading_names lf12 cf12 kf12 fun _ _ _ _ _ _ us hl => match us, hl with | [_], _ => rfl)
      (all_cons (def_at ok__law_are_straight_right lf13 cf13 kf13 fun _ _ _ _ _ _ us hl => match us, hl with | [_, _, _], _ => rfl)
      (all_cons (def_at ok__law_are_ways_right lf14 cf14 kf14 fun _ _ _ _ _ _ us hl => match us, hl with | [_, _, _], _ => rfl)
      (all_cons (def_at ok__law_cells lf15 cf15 kf15 fun _ _ _ _ _ _ us hl => match us, hl with | [_, _], _ => rfl)
      (all_cons (def_at ok__law_of lf16 cf16 kf16 fun _ _ _ _ _ _ us hl => match us, hl with | [_, _], _ => rfl)
      (all_cons (def_at ok__law_place lf17 cf17 kf17 fun _ _ _ _ _ _ us hl => match us, hl with | [_], _ => rfl)
      (all_cons (def_at ok__law_pot lf18 cf18 kf18 fun _ _ _ _ _ _ us hl => match us, hl with | [_, _], _ => rfl)
      (all_cons (def_at ok__law_right lf19 cf19 kf19 fun _ _ _ _ _ _ us hl => match us, hl with | [_], _ => rfl)
      (all_cons (def_at ok__law_some lf20 cf20 kf20 fun _ _ _ _ _ _ us hl => match us, hl with | [_, _, _], _ => rfl)
      (all_cons (def_at ok__law_straight lf21 cf21 kf21 fun _ _ _ _ _ _ us hl => match us, hl with | [_, _, _, _], _ => rfl)
      (all_cons (def_at ok__law_take lf22 cf22 kf22 fun _ _ _ _ _ _ us hl => match us, hl with | [_, _], _ => rfl)
      (all_cons (def_at ok_are_unlike lf23 cf23 kf23 fun _ _ _ _ _ _ us hl => match us, hl with | [_], _ => rfl)
      (all_cons (def_at ok_is_name lf24 cf24 kf24 fun _ _ _ _ _ _ us hl => match us, hl with | [_], _ => rfl)
      (all_cons (def_at ok_law lf25 cf25 kf25 fun _ _ _ _ _ _ us hl => match us, hl with | [_], _ => rfl)
      (all_cons (def_at ok_load_of lf26 cf26 kf26 fun _ _ _ _ _ _ us hl => match us, hl with | [_, _], _ => rfl)
      (all_cons (def_at ok_loads lf27 cf27 kf27 fun _ _ _ _ _ _ us hl => match us, hl with | [_], _ => rfl)
      (all_cons (def_at ok_met lf28 cf28 kf28 fun _ _ _ _ _ _ us hl => match us, hl with | [_, _], _ => rfl)
      (all_cons (def_at ok_number_told lf29 cf29 kf29 fun _ _ _ _ _ _ us hl => match us, hl with | [_], _ => rfl)
      (all_cons (def_at ok_read_lines lf30 cf30 kf30 fun _ _ _ _ _ _ us hl => match us, hl with | [_], _ => rfl)
      (all_cons (def_at ok_ring_by lf31 cf31 kf31 fun _ _ _ _ _ _ us hl => match us, hl with | [_, _, _, _], _ => rfl)
      (all_cons (def_at ok_span lf32 cf32 kf32 fun _ _ _ _ _ _ us hl => match us, hl with | [_], _ => rfl)
      (all_cons (def_at ok_turned lf33 cf33 kf33 fun _ _ _ _ _ _ us hl => match us, hl with | [_, _, _, _], _ => rfl)
      (all_cons (def_at ok_uneven_by lf34 cf34 kf34 fun _ _ _ _ _ _ us hl => match us, hl with | [_, _], _ => rfl)
      (all_cons (def_at ok_uneven_ring lf35 cf35 kf35 fun _ _ _ _ _ _ us hl => match us, hl with | [_], _ => rfl)
      (all_cons (def_at ok_walk_to lf36 cf36 kf36 fun _ _ _ _ _ _ us hl => match us, hl with | [_, _], _ => rfl)
      (all_nil)))))))))))))))))))))))))))))))))))))
  exact fun q a e => D (q, a) (mem_lk e)
end Law8
-- H8
namespace Law8
open Mi
theorem hbox : HasBox dat.P := ⟨rfl, rfl, rfl, rfl, rfl, rfl, rfl, rfl, rfl, rfl⟩
theorem hread : HasRead dat.P := ⟨rfl, rfl, rfl, rfl, rfl, rfl, rfl, rfl, rfl, rfl, rfl, rfl, rfl, rfl, rfl, rfl, rfl, rfl, rfl, rfl, rfl, rfl⟩
theorem hrings : HasRings dat.P := ⟨hbox, rfl, rfl, rfl, rfl⟩
theorem hmake : HasMake dat.P := ⟨hread, hrings, rfl, rfl, rfl, rfl, rfl, rfl, rfl, rfl⟩
theorem hloads : HasLoads dat.P := ⟨hbox, rfl, rfl, rfl⟩
theorem hdraws : Draws dat.P := Draws.mk (m1 := 100049) (m2 := 67) (m3 := 10267) (m4 := 163) (by omega) rfl
theorem hall : Law8b dat.P := ⟨⟨hmake, hloads, hdraws, Snd.rp_has _ rfl, rfl, rfl, rfl, rfl, rfl⟩, rfl, rfl⟩
theorem holds : ∀ ns : List Int, ns.length ≤ 63 → (∀ z ∈ ns, PySem.Builtin.Int.intBits z ≤ 1048576) → Mi.sem dat.P 60 "law" [.lsv (ns.map Mi.MV.int)] [] (fun v _ => v = .bl true) Snd.NoX :=
  fun ns _ _ => law8_ok hall rfl rfl (m1 := 271) (m2 := 113) (m3 := 75037) (m4 := 8123) (m5 := 179) (by omega) rfl ns _
end Law8
-- E8
open PySem PySem.W PyProof.Rows
set_option maxRecDepth 100000 in
set_option maxHeartbeats 0 in
theorem PySem.Challenge.cw_boxtalks_k08_loads_by_hand_holds : PySem.Challenge.rw_boxtalks_k08_loads_by_hand.Holds := by
  w_on; o_law; k_head; (case hw => w_witness2)
  k_fill
  refine Snd.walkG (l := PySem.Challenge.rw_boxtalks_k08_loads_by_hand) (k := 60) (P := Law8.dat.P) rfl rfl ⟨rfl, by decide, by decide⟩ (fun w h Y => PySem.W.kIn_of Y) ?F ?P
  case P => exact Law8.holds
  case F =>
    intro w mg fa h base KX G hmg
    refine' Law8.all_mk KX G hmg ?aC0 ?pgC0 ?hdC0 ?poC0 ?saC0 ?mkC0 ?kcC0 ?aC1 ?pgC1 ?hdC1 ?poC1 ?saC1 ?mkC1 ?kcC1 ?af0 ?if0 ?nf0 ?lf0 ?cf0 ?kf0 ?af1 ?if1 ?nf1 ?lf1 ?cf1 ?kf1 ?af2 ?if2 ?nf2 ?lf2 ?cf2 ?kf2 ?af3 ?gf3 ?tf3 ?rf3 ?lf3 ?cf3 ?kf3 ?af4 ?if4 ?nf4 ?lf4 ?cf4 ?kf4 ?af5 ?gf5 ?tf5 ?rf5 ?lf5 ?cf5 ?kf5 ?af6 ?if6 ?nf6 ?lf6 ?cf6 ?kf6 ?af7 ?if7 ?nf7 ?lf7 ?cf7 ?kf7 ?af8 ?if8 ?nf8 ?lf8 ?cf8 ?kf8 ?af9 ?if9 ?nf9 ?lf9 ?cf9 ?kf9 ?af10 ?if10 ?nf10 ?lf10 ?cf10 ?kf10 ?af11 ?if11 ?nf11 ?lf11 ?cf11 ?kf11 ?af12 ?if12 ?nf12 ?lf12 ?cf12 ?kf12 ?af13 ?lf13 ?cf13 ?kf13 ?af14 ?lf14 ?cf14 ?kf14 ?af15 ?lf15 ?cf15 ?kf15 ?af16 ?lf16 ?cf16 ?kf16 ?af17 ?lf17 ?cf17 ?kf17 ?af18 ?lf18 ?cf18 ?kf18 ?af19 ?lf19 ?cf19 ?kf19 ?af20 ?lf20 ?cf20 ?kf20 ?af21 ?lf21 ?cf21 ?kf21 ?af22 ?lf22 ?cf22 ?kf22 ?af23 ?lf23 ?cf23 ?kf23 ?af24 ?lf24 ?cf24 ?kf24 ?af25 ?lf25 ?cf25 ?kf25 ?af26 ?lf26 ?cf26 ?kf26 ?af27 ?lf27 ?cf27 ?kf27 ?af28 ?lf28 ?cf28 ?kf28 ?af29 ?lf29 ?cf29 ?kf29 ?af30 ?lf30 ?cf30 ?kf30 ?af31 ?lf31 ?cf31 ?kf31 ?af32 ?lf32 ?cf32 ?kf32 ?af33 ?lf33 ?cf33 ?kf33 ?af34 ?lf34 ?cf34 ?kf34 ?af35 ?lf35 ?cf35 ?kf35 ?af36 ?lf36 ?cf36 ?kf36 ?v2 ?v3 ?v4 ?v5 ?v6 ?v7 ?v8 ?v9 ?v10 ?e0 ?e1 ?e2 ?e3 ?e4 ?e5 ?e6 ?e7 ?e8 ?e9 ?e10 ?e11 ?e12 ?e13 ?e14 ?e15 ?e16 ?e17 ?e18 ?e19 ?e20 ?e21 ?z0 ?z1 ?z2 ?z3 ?z4 ?z5 ?z6 ?z7 ?z8 ?z9 ?z10 ?z11 ?z12 ?z13 ?z14 ?z15 ?z16 ?z17 ?z18 ?z19
    (case aC0 => k_is)
    (case pgC0 => k_is)
    (case hdC0 => k_is)
    (case poC0 => k_is)
    (case saC0 => k_is)
    (case mkC0 => k_is)
    (case kcC0 => k_is)
    (case aC1 => k_is)
    (case pgC1 => k_is)
    (case hdC1 => k_is)
    (case poC1 => k_is)
    (case saC1 => k_is)
    (case mkC1 => k_is)
    (case kcC1 => k_is)
    (case af0 => k_is)
    (case if0 => k_is)
    (case nf0 => k_is)
    (case lf0 => k_is)
    (case cf0 => k_is)
    (case kf0 => k_is)
    (case af1 => k_is)
    (case if1 => k_is)
    (case nf1 => k_is)
    (case lf1 => k_is)
    (case cf1 => k_is)
    (case kf1 => k_is)
    (case af2 => k_is)
    (case if2 => k_is)
    (case nf2 => k_is)
    (case lf2 => k_is)
    (case cf2 => k_is)
    (case kf2 => k_is)
    (case af3 => k_is)
    (case gf3 => k_is)
    (case tf3 => k_is)
    (case rf3 => k_is)
    (case lf3 => k_is)
    (case cf3 => k_is)
    (case kf3 => k_is)
    (case af4 => k_is)
    (case if4 => k_is)
    (case nf4 => k_is)
    (case lf4 => k_is)
    (case cf4 => k_is)
    (case kf4 => k_is)
    (case af5 => k_is)
    (case gf5 => k_is)
    (case tf5 => k_is)
    (case rf5 => k_is)
    (case lf5 => k_is)
    (case cf5 => k_is)
    (case kf5 => k_is)
    (case af6 => k_is)
    (case if6 => k_is)
    (case nf6 => k_is)
    (case lf6 => k_is)
    (case cf6 => k_is)
    (case kf6 => k_is)
    (case af7 => k_is)
    (case if7 => k_is)
    (case nf7 => k_is)
    (case lf7 => k_is)
    (case cf7 => k_is)
    (case kf7 => k_is)
    (case af8 => k_is)
    (case if8 => k_is)
    (case nf8 => k_is)
    (case lf8 => k_is)
    (case cf8 => k_is)
    (case kf8 => k_is)
    (case af9 => k_is)
    (case if9 => k_is)
    (case nf9 => k_is)
    (case lf9 => k_is)
    (case cf9 => k_is)
    (case kf9 => k_is)
    (case af10 => k_is)
    (case if10 => k_is)
    (case nf10 => k_is)
    (case lf10 => k_is)
    (case cf10 => k_is)
    (case kf10 => k_is)
    (case af11 => k_is)
    (case if11 => k_is)
    (case nf11 => k_is)
    (case lf11 => k_is)
    (case cf11 => k_is)
    (case kf11 => k_is)
    (case af12 => k_is)
    (case if12 => k_is)
    (case nf12 => k_is)
    (case lf12 => k_is)
    (case cf12 => k_is)
    (case kf12 => k_is)
    (case af13 => k_is)
    (case lf13 => k_is)
    (case cf13 => k_is)
    (case kf13 => k_is)
    (case af14 => k_is)
    (case lf14 => k_is)
    (case cf14 => k_is)
    (case kf14 => k_is)
    (case af15 => k_is)
    (case lf15 => k_is)
    (case cf15 => k_is)
    (case kf15 => k_is)
    (case af16 => k_is)
    (case lf16 => k_is)
    (case cf16 => k_is)
    (case kf16 => k_is)
    (case af17 => k_is)
    (case lf17 => k_is)
    (case cf17 => k_is)
    (case kf17 => k_is)
    (case af18 => k_is)
    (case lf18 => k_is)
    (case cf18 => k_is)
    (case kf18 => k_is)
    (case af19 => k_is)
    (case lf19 => k_is)
    (case cf19 => k_is)
    (case kf19 => k_is)
    (case af20 => k_is)
    (case lf20 => k_is)
    (case cf20 => k_is)
    (case kf20 => k_is)
    (case af21 => k_is)
    (case lf21 => k_is)
    (case cf21 => k_is)
    (case kf21 => k_is)
    (case af22 => k_is)
    (case lf22 => k_is)
    (case cf22 => k_is)
    (case kf22 => k_is)
    (case af23 => k_is)
    (case lf23 => k_is)
    (case cf23 => k_is)
    (case kf23 => k_is)
    (case af24 => k_is)
    (case lf24 => k_is)
    (case cf24 => k_is)
    (case kf24 => k_is)
    (case af25 => k_is)
    (case lf25 => k_is)
    (case cf25 => k_is)
    (case kf25 => k_is)
    (case af26 => k_is)
    (case lf26 => k_is)
    (case cf26 => k_is)
    (case kf26 => k_is)
    (case af27 => k_is)
    (case lf27 => k_is)
    (case cf27 => k_is)
    (case kf27 => k_is)
    (case af28 => k_is)
    (case lf28 => k_is)
    (case cf28 => k_is)
    (case kf28 => k_is)
    (case af29 => k_is)
    (case lf29 => k_is)
    (case cf29 => k_is)
    (case kf29 => k_is)
    (case af30 => k_is)
    (case lf30 => k_is)
    (case cf30 => k_is)
    (case kf30 => k_is)
    (case af31 => k_is)
    (case lf31 => k_is)
    (case cf31 => k_is)
    (case kf31 => k_is)
    (case af32 => k_is)
    (case lf32 => k_is)
    (case cf32 => k_is)
    (case kf32 => k_is)
    (case af33 => k_is)
    (case lf33 => k_is)
    (case cf33 => k_is)
    (case kf33 => k_is)
    (case af34 => k_is)
    (case lf34 => k_is)
    (case cf34 => k_is)
    (case kf34 => k_is)
    (case af35 => k_is)
    (case lf35 => k_is)
    (case cf35 => k_is)
    (case kf35 => k_is)
    (case af36 => k_is)
    (case lf36 => k_is)
    (case cf36 => k_is)
    (case kf36 => k_is)
    (case v2 => k_is)
    (case v3 => k_is)
    (case v4 => k_is)
    (case v5 => k_is)
    (case v6 => k_is)
    (case v7 => k_is)
    (case v8 => k_is)
    (case v9 => k_is)
    (case v10 => k_is)
    (case e0 => k_is)
    (case e1 => k_is)
    (case e2 => k_is)
    (case e3 => k_is)
    (case e4 => k_is)
    (case e5 => k_is)
    (case e6 => k_is)
    (case e7 => k_is)
    (case e8 => k_is)
    (case e9 => k_is)
    (case e10 => k_is)
    (case e11 => k_is)
    (case e12 => k_is)
    (case e13 => k_is)
    (case e14 => k_is)
    (case e15 => k_is)
    (case e16 => k_is)
    (case e17 => k_is)
    (case e18 => k_is)
    (case e19 => k_is)
    (case e20 => k_is)
    (case e21 => k_is)
    (case z0 => k_is)
    (case z1 => k_is)
    (case z2 => k_is)
    (case z3 => k_is)
    (case z4 => k_is)
    (case z5 => k_is)
    (case z6 => k_is)
    (case z7 => k_is)
    (case z8 => k_is)
    (case z9 => k_is)
    (case z10 => k_is)
    (case z11 => k_is)
    (case z12 => k_is)
    (case z13 => k_is)
    (case z14 => k_is)
    (case z15 => k_is)
    (case z16 => k_is)
    (case z17 => k_is)
    (case z18 => k_is)
    (case z19 => k_is)
